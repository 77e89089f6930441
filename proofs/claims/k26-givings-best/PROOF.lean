import PyProof.Rows.All
import Wide.All
import OpenK.AllK
import Wide.FinOn
import HandS.ForMost
import HandS.AnyAll
import KE.GoesEnum
import PyProof.SumAny
import HandS.Lambda
import HandS.SortKw
import KE.DataMinKey
import HandS.TupLe
import HandS.NamedTupSort
import KE.DataMinMax
import HandS.Conv
import KE.KDictKeyed
import KE.KTupTabMore
import HandS.Rev
import PyProof.ListNew
import HandS.EndTab
import HandS.Style
import HandS.TupAny
import HandS.Deep
import HandS.SetFor
import HandS.Strs
import HandS.Flow
import PySem.Challenge.RW_pairmart_k26_givings_best_by_counts
import HandS.EndOwn
/-! The pairing by prices, in plain Lean: what one turn of the search does to prices, ways and pairs. -/
namespace G3

def fset {α : Type} (f : Nat → α) (i : Nat) (x : α) : Nat → α := fun j => if j = i then x else f j
theorem fset_same {α : Type} {f : Nat → α} {i : Nat} {x : α} : fset f i x i = x := by
  unfold fset
  rw [if_pos rfl]
theorem fset_ne {α : Type} {f : Nat → α} {i j : Nat} {x : α} (h : j ≠ i) : fset f i x j = f j := by
  unfold fset
  rw [if_neg h]

/-- slack of a row at a column -/
abbrev sl (c : Nat → Nat → Int) (u v : Nat → Int) (i j : Nat) : Int := c i j - u i - v j

/-- r rows are in, over m columns -/
structure Good (r m : Nat) (c : Nat → Nat → Int) (u v : Nat → Int) (ow : Nat → Option Nat) : Prop where
  feas : ∀ i j, i < r → j < m → 0 ≤ sl c u v i j
  own : ∀ i j, j < m → ow j = some i → i < r
  tight : ∀ i j, j < m → ow j = some i → sl c u v i j = 0
  inj : ∀ i j k, j < m → k < m → ow j = some i → ow k = some i → j = k
  all : ∀ i, i < r → ∃ j, j < m ∧ ow j = some i
  neg : ∀ j, j < m → v j ≤ 0
  zero : ∀ j, j < m → ow j = none → v j = 0

theorem Good.start (m : Nat) (c : Nat → Nat → Int) (u : Nat → Int) : Good 0 m c u (fun _ => 0) (fun _ => none) where
  feas := fun i _ h => absurd h (Nat.not_lt_zero i)
  own := fun _ _ _ h => nomatch h
  tight := fun _ _ _ h => nomatch h
  inj := fun _ _ _ _ _ h => nomatch h
  all := fun i h => absurd h (Nat.not_lt_zero i)
  neg := fun _ _ => Int.le_refl 0
  zero := fun _ _ _ => rfl

/-- whose row the way to a column comes from; l: the columns it may come by -/
def Src (row : Nat) (ow : Nat → Option Nat) (l : List Nat) (o : Option Nat) (i : Nat) : Prop := (o = none ∧ i = row) ∨ ∃ c, c ∈ l ∧ o = some c ∧ ow c = some i
theorem Src.mono {row : Nat} {ow : Nat → Option Nat} {l l' : List Nat} {o : Option Nat} {i : Nat} (h : Src row ow l o i) (s : ∀ c, c ∈ l → c ∈ l') : Src row ow l' o i := by
  rcases h with h | ⟨c, h1, h2⟩
  · exact .inl h
  · exact .inr ⟨c, s c h1, h2⟩
/-- the rows reached -/
def InT (row : Nat) (ow : Nat → Option Nat) (l : List Nat) (i : Nat) : Prop := i = row ∨ ∃ c, c ∈ l ∧ ow c = some i
theorem Src.inT {row : Nat} {ow : Nat → Option Nat} {l : List Nat} {o : Option Nat} {i : Nat} (h : Src row ow l o i) : InT row ow l i := by
  rcases h with ⟨_, h⟩ | ⟨c, h1, _, h2⟩
  · exact .inl h
  · exact .inr ⟨c, h1, h2⟩

/-- the tree of ways as it stands behind a turn -/
structure Tree (row m : Nat) (c : Nat → Nat → Int) (u v : Nat → Int) (ow : Nat → Option Nat) (used : List Nat) (came : Nat → Option Nat) : Prop where
  feas : ∀ i j, i < row → j < m → 0 ≤ sl c u v i j
  feasR : used ≠ [] → ∀ j, j < m → 0 ≤ sl c u v row j
  own : ∀ i j, j < m → ow j = some i → i < row
  tight : ∀ i j, j < m → ow j = some i → sl c u v i j = 0
  inj : ∀ i j k, j < m → k < m → ow j = some i → ow k = some i → j = k
  all : ∀ i, i < row → ∃ j, j < m ∧ ow j = some i
  neg : ∀ j, j < m → v j ≤ 0
  zero : ∀ j, j < m → ow j = none → v j = 0
  nd : used.Nodup
  lt : ∀ k, k ∈ used → k < m
  path : ∀ l1 k l2, used = l1 ++ k :: l2 → ∃ i, Src row ow l1 (came k) i ∧ sl c u v i k = 0

/-- ahead of a turn: what is known of the best ways; here: the row to look from next, by the column last taken -/
structure Head (row m : Nat) (c : Nat → Nat → Int) (u v : Nat → Int) (ow : Nat → Option Nat) (used : List Nat) (here : Nat) (col : Option Nat) (best : Nat → Option Int) (came : Nat → Option Nat) : Prop where
  tree : Tree row m c u v ow used came
  have_ : ∀ k, k ∈ used → ∃ i, ow k = some i
  last : Src row ow used col here
  bestLe : ∀ j, j < m → j ∉ used → ∀ i, InT row ow used i → i ≠ here → ∃ b, best j = some b ∧ b ≤ sl c u v i j
  bestEq : ∀ j, j < m → j ∉ used → ∀ b, best j = some b → ∃ i, Src row ow used (came j) i ∧ sl c u v i j = b

theorem Head.start {row m : Nat} {c : Nat → Nat → Int} {u v : Nat → Int} {ow : Nat → Option Nat} (G : Good row m c u v ow) (came : Nat → Option Nat) : Head row m c u v ow [] row none (fun _ => none) came where
  tree := ⟨G.feas, fun h => absurd rfl h, G.own, G.tight, G.inj, G.all, G.neg, G.zero, List.nodup_nil, fun _ h => (by cases h), fun l1 k l2 h => by
    cases l1 <;> cases h⟩
  have_ := fun _ h => nomatch h
  last := .inl ⟨rfl, rfl⟩
  bestLe := fun j _ _ i h hn => by
    rcases h with h | ⟨_, h, _⟩
    · exact absurd h hn
    · cases h
  bestEq := fun j _ _ b h => nomatch h

/-- the look from a row: what it makes of the best ways and where they come from -/
def lookB (c : Nat → Nat → Int) (u v : Nat → Int) (used : List Nat) (here : Nat) (best : Nat → Option Int) (j : Nat) : Option Int :=
  if j ∈ used then best j else match best j with
    | none => some (sl c u v here j)
    | some b => if sl c u v here j < b then some (sl c u v here j) else some b
def lookC (c : Nat → Nat → Int) (u v : Nat → Int) (used : List Nat) (here : Nat) (col : Option Nat) (best : Nat → Option Int) (came : Nat → Option Nat) (j : Nat) : Option Nat :=
  if j ∈ used then came j else match best j with
    | none => col
    | some b => if sl c u v here j < b then col else came j

/-- behind the look -/
theorem look_le {row m : Nat} {c : Nat → Nat → Int} {u v : Nat → Int} {ow : Nat → Option Nat} {used : List Nat} {here : Nat} {col : Option Nat} {best : Nat → Option Int} {came : Nat → Option Nat}
    (h : Head row m c u v ow used here col best came) {j : Nat} (hj : j < m) (hu : j ∉ used) : ∃ b, lookB c u v used here best j = some b ∧ (∀ i, InT row ow used i → b ≤ sl c u v i j) ∧
      ∃ i, Src row ow used (lookC c u v used here col best came j) i ∧ sl c u v i j = b := by
  unfold lookB lookC
  rw [if_neg hu, if_neg hu]
  cases hb : best j with
  | none =>
    refine ⟨_, rfl, fun i hi => ?_, here, h.last, rfl⟩
    by_cases e : i = here
    · rw [e]
      exact Int.le_refl _
    · obtain ⟨b, e2, _⟩ := h.bestLe j hj hu i hi e
      rw [hb] at e2
      cases e2
  | some b =>
    show ∃ b', (if sl c u v here j < b then some (sl c u v here j) else some b) = some b' ∧ _ ∧ ∃ i, Src row ow used (if sl c u v here j < b then col else came j) i ∧ _
    by_cases hlt : sl c u v here j < b
    · rw [if_pos hlt, if_pos hlt]
      refine ⟨_, rfl, fun i hi => ?_, here, h.last, rfl⟩
      by_cases e : i = here
      · rw [e]
        exact Int.le_refl _
      · obtain ⟨b2, e2, le⟩ := h.bestLe j hj hu i hi e
        rw [hb] at e2
        cases e2
        omega
    · rw [if_neg hlt, if_neg hlt]
      refine ⟨b, rfl, fun i hi => ?_, ?_⟩
      · by_cases e : i = here
        · rw [e]
          omega
        · obtain ⟨b2, e2, le⟩ := h.bestLe j hj hu i hi e
          rw [hb] at e2
          cases e2
          exact le
      · exact h.bestEq j hj hu b hb

/-- the shift of prices: rows reached up, columns used down -/
def upAll (f : Nat → Int) (l : List Nat) (d : Int) : Nat → Int := l.foldl (fun g i => fset g i (g i + d)) f
theorem upAll_at (d : Int) : ∀ (l : List Nat) (f : Nat → Int) (i : Nat), l.Nodup → upAll f l d i = if i ∈ l then f i + d else f i
  | [], f, i, _ => by
    rw [if_neg (by simp)]
    rfl
  | a :: l, f, i, h => by
    have h1 := List.nodup_cons.mp h
    show upAll (fset f a (f a + d)) l d i = _
    rw [upAll_at d l _ i h1.2]
    by_cases e : i = a
    · subst e
      rw [if_neg h1.1, if_pos List.mem_cons_self, fset_same]
    · rw [fset_ne e]
      by_cases hm : i ∈ l
      · rw [if_pos hm, if_pos (List.mem_cons_of_mem _ hm)]
      · rw [if_neg hm, if_neg (by
          intro z
          rcases List.mem_cons.mp z with z | z
          · exact e z
          · exact hm z)]
theorem upAll_snoc (d : Int) (l : List Nat) (f : Nat → Int) (a : Nat) : upAll f (l ++ [a]) d = fset (upAll f l d) a (upAll f l d a + d) := by
  unfold upAll
  rw [List.foldl_append]
  rfl

theorem mem_append_single {a b : Nat} {l : List Nat} : a ∈ l ++ [b] ↔ a ∈ l ∨ a = b := by
  rw [List.mem_append, List.mem_singleton]

theorem split_snoc {used l1 l2 : List Nat} {k col : Nat} (h : used ++ [col] = l1 ++ k :: l2) : (∃ l3, used = l1 ++ k :: l3) ∨ (used = l1 ∧ col = k) := by
  rcases List.eq_nil_or_concat l2 with e | ⟨l3, x, e⟩
  · subst e
    have h2 := List.append_inj' h rfl
    exact .inr ⟨h2.1, by simpa using h2.2⟩
  · subst e
    rw [List.concat_eq_append] at h
    have h' : used ++ [col] = (l1 ++ k :: l3) ++ [x] := by rw [h]; simp
    have h2 := List.append_inj' h' rfl
    exact .inl ⟨l3, h2.1⟩

section
variable {row m : Nat} {c : Nat → Nat → Int} {u v u' v' : Nat → Int} {ow : Nat → Option Nat} {used : List Nat} {here : Nat} {col : Option Nat} {best best1 best2 : Nat → Option Int} {came came1 : Nat → Option Nat}

/-- one whole turn -/
structure Turn (row m : Nat) (c : Nat → Nat → Int) (u v : Nat → Int) (ow : Nat → Option Nat) (used : List Nat) (best1 : Nat → Option Int) (u' v' : Nat → Int) (best2 : Nat → Option Int) (k : Nat) (d : Int) : Prop where
  klt : k < m
  knew : k ∉ used
  kbest : best1 k = some d
  kleast : ∀ j b, j < m → j ∉ used → best1 j = some b → d ≤ b
  upT : ∀ i, InT row ow used i → u' i = u i + d
  upN : ∀ i, ¬ InT row ow used i → u' i = u i
  dnU : ∀ j, j ∈ used → v' j = v j - d
  dnN : ∀ j, j ∉ used → v' j = v j
  bst : ∀ j, j < m → j ∉ used → ∀ b, best1 j = some b → best2 j = some (b - d)

theorem Head.turn (h : Head row m c u v ow used here col best came) {k : Nat} {d : Int} (t : Turn row m c u v ow used (lookB c u v used here best) u' v' best2 k d) :
    Tree row m c u' v' ow (used ++ [k]) (lookC c u v used here col best came) ∧
    ∀ i, ow k = some i → Head row m c u' v' ow (used ++ [k]) i (some k) best2 (lookC c u v used here col best came) := by
  have T := h.tree
  obtain ⟨b0, e0, le0, i0, s0, q0⟩ := look_le h t.klt t.knew
  have eb : b0 = d := by
    have := t.kbest
    rw [e0] at this
    exact Option.some.inj this
  subst eb
  have rowT : InT row ow used row := .inl rfl
  have usedT : ∀ {j i}, j ∈ used → ow j = some i → InT row ow used i := fun hj e => .inr ⟨_, hj, e⟩
  have inTlt : ∀ {i}, InT row ow used i → i = row ∨ i < row := fun {i} hi => by
    rcases hi with e | ⟨j, hj, e⟩
    · exact .inl e
    · exact .inr (T.own i j (T.lt j hj) e)
  -- the least way is not below nought once something is used
  have dpos : used ≠ [] → 0 ≤ b0 := fun hu => by
    rw [← q0]
    rcases inTlt s0.inT with e | e
    · rw [e]
      exact T.feasR hu k t.klt
    · exact T.feas i0 k e t.klt
  -- slacks behind the shift
  have slTU : ∀ {i j}, InT row ow used i → j ∈ used → sl c u' v' i j = sl c u v i j := fun {i j} hi hj => by
    show c i j - u' i - v' j = c i j - u i - v j
    rw [t.upT i hi, t.dnU j hj]
    omega
  have slTN : ∀ {i j}, InT row ow used i → j ∉ used → sl c u' v' i j = sl c u v i j - b0 := fun {i j} hi hj => by
    show c i j - u' i - v' j = c i j - u i - v j - b0
    rw [t.upT i hi, t.dnN j hj]
    omega
  have slNU : ∀ {i j}, ¬ InT row ow used i → j ∈ used → sl c u' v' i j = sl c u v i j + b0 := fun {i j} hi hj => by
    show c i j - u' i - v' j = c i j - u i - v j + b0
    rw [t.upN i hi, t.dnU j hj]
    omega
  have slNN : ∀ {i j}, ¬ InT row ow used i → j ∉ used → sl c u' v' i j = sl c u v i j := fun {i j} hi hj => by
    show c i j - u' i - v' j = c i j - u i - v j
    rw [t.upN i hi, t.dnN j hj]
  have bound : ∀ {i j}, InT row ow used i → j < m → j ∉ used → b0 ≤ sl c u v i j := fun {i j} hi hj hu => by
    obtain ⟨b, e, le, _⟩ := look_le h hj hu
    exact Int.le_trans (t.kleast j b hj hu e) (le i hi)
  have feasAll : ∀ i j, (i = row ∨ i < row) → j < m → 0 ≤ sl c u' v' i j := fun i j hi hj => by
    by_cases hT : InT row ow used i
    · by_cases hu : j ∈ used
      · rw [slTU hT hu]
        rcases hi with e | e
        · rw [e]
          exact T.feasR (fun z => by rw [z] at hu; cases hu) j hj
        · exact T.feas i j e hj
      · rw [slTN hT hu]
        have := bound hT hj hu
        omega
    · have hi' : i < row := by
        rcases hi with e | e
        · exact absurd (.inl e) hT
        · exact e
      have h0 := T.feas i j hi' hj
      by_cases hu : j ∈ used
      · rw [slNU hT hu]
        have := dpos fun z => by rw [z] at hu; cases hu
        omega
      · rw [slNN hT hu]
        exact h0
  have tight : ∀ i j, j < m → ow j = some i → sl c u' v' i j = 0 := fun i j hj e => by
    have h0 := T.tight i j hj e
    by_cases hu : j ∈ used
    · rw [slTU (usedT hu e) hu]
      exact h0
    · have nT : ¬ InT row ow used i := fun z => by
        rcases z with z | ⟨j', hj', e'⟩
        · have := T.own i j hj e
          omega
        · exact hu (by rw [T.inj i j j' hj (T.lt j' hj') e e']; exact hj')
      rw [slNN nT hu]
      exact h0
  have tree : Tree row m c u' v' ow (used ++ [k]) (lookC c u v used here col best came) := by
    refine ⟨fun i j hi hj => feasAll i j (.inr hi) hj, fun _ j hj => feasAll row j (.inl rfl) hj, T.own, tight, T.inj, T.all, fun j hj => ?_, fun j hj e => ?_, ?_, fun j hj => ?_, fun l1 k' l2 e => ?_⟩
    · by_cases hu : j ∈ used
      · rw [t.dnU j hu]
        have h1 := T.neg j hj
        have h2 := dpos fun z => by rw [z] at hu; cases hu
        omega
      · rw [t.dnN j hu]
        exact T.neg j hj
    · have hu : j ∉ used := fun z => by
        obtain ⟨i, e2⟩ := h.have_ j z
        rw [e] at e2
        cases e2
      rw [t.dnN j hu]
      exact T.zero j hj e
    · rw [List.nodup_append]
      refine ⟨T.nd, by simp, fun a ha b hb z => ?_⟩
      have eb : b = k := by simpa using hb
      rw [z, eb] at ha
      exact t.knew ha
    · rcases mem_append_single.mp hj with z | z
      · exact T.lt j z
      · rw [z]
        exact t.klt
    · rcases split_snoc e with ⟨l3, e3⟩ | ⟨e3, e4⟩
      · obtain ⟨i, s, q⟩ := T.path l1 k' l3 e3
        have hk' : k' ∈ used := by rw [e3]; simp
        refine ⟨i, ?_, ?_⟩
        · show Src row ow l1 (lookC c u v used here col best came k') i
          unfold lookC
          rw [if_pos hk']
          exact s
        · rw [slTU (s.mono fun a ha => by rw [e3]; exact List.mem_append_left _ ha).inT hk']
          exact q
      · subst e3
        subst e4
        refine ⟨i0, s0, ?_⟩
        rw [slTN s0.inT t.knew, q0]
        omega
  refine ⟨tree, fun i hi => ⟨tree, fun j hj => ?_, .inr ⟨k, mem_append_single.mpr (.inr rfl), rfl, hi⟩, fun j hj hu i' hi' hn => ?_, fun j hj hu b e => ?_⟩⟩
  · rcases mem_append_single.mp hj with z | z
    · exact h.have_ j z
    · exact ⟨i, by rw [z]; exact hi⟩
  · have hu1 : j ∉ used := fun z => hu (mem_append_single.mpr (.inl z))
    have hT : InT row ow used i' := by
      rcases hi' with z | ⟨j', hj', e'⟩
      · exact .inl z
      · rcases mem_append_single.mp hj' with z | z
        · exact .inr ⟨j', z, e'⟩
        · rw [z, hi] at e'
          exact absurd (Option.some.inj e').symm hn
    obtain ⟨b, e, le, _⟩ := look_le h hj hu1
    refine ⟨b - b0, t.bst j hj hu1 b e, ?_⟩
    rw [slTN hT hu1]
    have := le i' hT
    omega
  · have hu1 : j ∉ used := fun z => hu (mem_append_single.mpr (.inl z))
    obtain ⟨b1, e1, le, i1, s1, q1⟩ := look_le h hj hu1
    have e2 := t.bst j hj hu1 b1 e1
    rw [e] at e2
    have eb := Option.some.inj e2
    refine ⟨i1, s1.mono fun a ha => mem_append_single.mpr (.inl ha), ?_⟩
    rw [slTN s1.inT hu1, q1, eb]
end

/-! ### the pairs turned along the way back -/
/-- ow: the pairs ahead of the turning, o: as they stand; k: the column that takes another row next -/
structure Aug (row m : Nat) (c : Nat → Nat → Int) (u v : Nat → Int) (ow : Nat → Option Nat) (used : List Nat) (came : Nat → Option Nat) (o : Nat → Option Nat) (k : Nat) (l1 : List Nat) : Prop where
  tree : Tree row m c u v ow used came
  at_ : ∃ l2, used = l1 ++ k :: l2
  same : ∀ j, j ∈ l1 → o j = ow j
  own : ∀ i j, j < m → j ≠ k → o j = some i → i < row ∧ sl c u v i j = 0
  inj : ∀ i j j', j < m → j' < m → j ≠ k → j' ≠ k → o j = some i → o j' = some i → j = j'
  all : ∀ i, i < row → ∃ j, j < m ∧ j ≠ k ∧ o j = some i
  zero : ∀ j, j < m → j ≠ k → o j = none → v j = 0

section
variable {row m : Nat} {c : Nat → Nat → Int} {u v : Nat → Int} {ow o : Nat → Option Nat} {used l1 : List Nat} {came : Nat → Option Nat} {k b : Nat}
theorem Aug.start (T : Tree row m c u v ow (used ++ [k]) came) (e : ow k = none) : Aug row m c u v ow (used ++ [k]) came ow k used where
  tree := T
  at_ := ⟨[], rfl⟩
  same := fun _ _ => rfl
  own := fun i j hj _ h => ⟨T.own i j hj h, T.tight i j hj h⟩
  inj := fun i j j' hj hj' _ _ => T.inj i j j' hj hj'
  all := fun i hi => by
    obtain ⟨j, hj, h⟩ := T.all i hi
    refine ⟨j, hj, fun z => ?_, h⟩
    rw [z, e] at h
    cases h
  zero := fun j hj _ => T.zero j hj
theorem Aug.klt (a : Aug row m c u v ow used came o k l1) : k < m := by
  obtain ⟨l2, e⟩ := a.at_
  exact a.tree.lt k (by rw [e]; simp)
/-- by another column -/
theorem Aug.step (a : Aug row m c u v ow used came o k l1) (hb : came k = some b) : ∃ l, Aug row m c u v ow used came (fset o k (o b)) b l ∧ b < m ∧ l.length < l1.length := by
  obtain ⟨l2, e⟩ := a.at_
  obtain ⟨i, s, q⟩ := a.tree.path l1 k l2 e
  have hs : b ∈ l1 ∧ ow b = some i := by
    rcases s with ⟨z, _⟩ | ⟨b', h1, h2, h3⟩
    · rw [hb] at z
      cases z
    · rw [hb] at h2
      cases h2
      exact ⟨h1, h3⟩
  obtain ⟨hb1, hbo⟩ := hs
  obtain ⟨la, lb, el⟩ := List.append_of_mem hb1
  have hbm : b < m := a.tree.lt b (by rw [e, el]; simp)
  have nd := a.tree.nd
  have hbk : b ≠ k := fun z => by
    rw [e, el, z] at nd
    have := List.nodup_append.mp nd
    exact this.2.2 k (by simp) k (by simp) rfl
  have hkla : ∀ j, j ∈ la → j ≠ k := fun j hj z => by
    rw [e, el] at nd
    have := List.nodup_append.mp nd
    exact this.2.2 j (by simp [hj]) k (by simp) z
  have hob : o b = some i := (a.same b hb1).trans hbo
  refine ⟨la, ⟨a.tree, ⟨lb ++ k :: l2, by rw [e, el]; simp⟩, fun j hj => ?_, fun i' j hj hn h => ?_, fun i' j j' hj hj' hn hn' h h' => ?_, fun i' hi' => ?_, fun j hj hn h => ?_⟩, hbm, by rw [el]; simp⟩
  · rw [fset_ne (hkla j hj)]
    exact a.same j (by rw [el]; simp [hj])
  · by_cases z : j = k
    · rw [z, fset_same, hob] at h
      cases h
      exact ⟨(a.own i b hbm hbk hob).1, by rw [z]; exact q⟩
    · rw [fset_ne z] at h
      exact a.own i' j hj z h
  · by_cases z : j = k
    · by_cases z' : j' = k
      · rw [z, z']
      · rw [z, fset_same, hob] at h
        cases h
        rw [fset_ne z'] at h'
        exact absurd (a.inj i j' b hj' hbm z' hbk h' hob) hn'
    · rw [fset_ne z] at h
      by_cases z' : j' = k
      · rw [z', fset_same, hob] at h'
        cases h'
        exact absurd (a.inj i j b hj hbm z hbk h hob) hn
      · rw [fset_ne z'] at h'
        exact a.inj i' j j' hj hj' z z' h h'
  · obtain ⟨j, hj, hn, h⟩ := a.all i' hi'
    by_cases z : j = b
    · refine ⟨k, a.klt, fun y => hbk y.symm, ?_⟩
      rw [fset_same, ← z]
      exact h
    · exact ⟨j, hj, z, by rw [fset_ne hn]; exact h⟩
  · by_cases z : j = k
    · rw [z, fset_same, hob] at h
      cases h
    · rw [fset_ne z] at h
      exact a.zero j hj z h
/-- by the row itself: one row more is in -/
theorem Aug.done (a : Aug row m c u v ow used came o k l1) (hb : came k = none) : Good (row + 1) m c u v (fset o k (some row)) := by
  obtain ⟨l2, e⟩ := a.at_
  obtain ⟨i, s, q⟩ := a.tree.path l1 k l2 e
  have hi : i = row := by
    rcases s with ⟨_, z⟩ | ⟨b', _, h2, _⟩
    · exact z
    · rw [hb] at h2
      cases h2
  subst hi
  have hu : used ≠ [] := fun z => by
    rw [z] at e
    cases l1 <;> cases e
  refine ⟨fun i' j hi' hj => ?_, fun i' j hj h => ?_, fun i' j hj h => ?_, fun i' j j' hj hj' h h' => ?_, fun i' hi' => ?_, a.tree.neg, fun j hj h => ?_⟩
  · by_cases z : i' = i
    · rw [z]
      exact a.tree.feasR hu j hj
    · exact a.tree.feas i' j (by omega) hj
  · by_cases z : j = k
    · rw [z, fset_same] at h
      cases h
      exact Nat.lt_succ_self _
    · rw [fset_ne z] at h
      exact Nat.lt_succ_of_lt (a.own i' j hj z h).1
  · by_cases z : j = k
    · rw [z, fset_same] at h
      cases h
      rw [z]
      exact q
    · rw [fset_ne z] at h
      exact (a.own i' j hj z h).2
  · by_cases z : j = k
    · by_cases z' : j' = k
      · rw [z, z']
      · rw [z, fset_same] at h
        cases h
        rw [fset_ne z'] at h'
        exact absurd (a.own i j' hj' z' h').1 (Nat.lt_irrefl _)
    · rw [fset_ne z] at h
      by_cases z' : j' = k
      · rw [z', fset_same] at h'
        cases h'
        exact absurd (a.own i j hj z h).1 (Nat.lt_irrefl _)
      · rw [fset_ne z'] at h'
        exact a.inj i' j j' hj hj' z z' h h'
  · by_cases z : i' = i
    · exact ⟨k, a.klt, by rw [fset_same, z]⟩
    · obtain ⟨j, hj, hn, h⟩ := a.all i' (by omega)
      exact ⟨j, hj, by rw [fset_ne hn]; exact h⟩
  · by_cases z : j = k
    · rw [z, fset_same] at h
      cases h
    · rw [fset_ne z] at h
      exact a.zero j hj z h
end

/-! ### how many columns can be used -/
theorem nodup_len {α : Type} [DecidableEq α] : ∀ (l r : List α), l.Nodup → (∀ x, x ∈ l → x ∈ r) → l.length ≤ r.length
  | [], _, _, _ => Nat.zero_le _
  | a :: l, r, h, s => by
    have h1 := List.nodup_cons.mp h
    have ha : a ∈ r := s a List.mem_cons_self
    have h2 := nodup_len l (r.erase a) h1.2 fun x hx => by
      have hn : x ≠ a := fun z => h1.1 (z ▸ hx)
      exact (List.mem_erase_of_ne hn).mpr (s x (List.mem_cons_of_mem _ hx))
    rw [List.length_erase_of_mem ha] at h2
    have := List.length_pos_of_mem ha
    rw [List.length_cons]
    omega
theorem used_len {row m : Nat} {c : Nat → Nat → Int} {u v : Nat → Int} {ow : Nat → Option Nat} {used : List Nat} {here : Nat} {col : Option Nat} {best : Nat → Option Int} {came : Nat → Option Nat}
    (h : Head row m c u v ow used here col best came) : used.length ≤ row := by
  have key : ∀ l : List Nat, l.Nodup → (∀ k, k ∈ l → k ∈ used) → (l.filterMap ow).Nodup ∧ (l.filterMap ow).length = l.length := by
    intro l
    induction l with
    | nil => intro _ _; exact ⟨List.nodup_nil, rfl⟩
    | cons a l ih =>
      intro nd s
      have h1 := List.nodup_cons.mp nd
      obtain ⟨n2, e2⟩ := ih h1.2 fun k hk => s k (List.mem_cons_of_mem _ hk)
      have ha := s a List.mem_cons_self
      obtain ⟨i, hi⟩ := h.have_ a ha
      have ef : (a :: l).filterMap ow = i :: l.filterMap ow := by rw [List.filterMap_cons, hi]
      rw [ef]
      refine ⟨List.nodup_cons.mpr ⟨fun z => ?_, n2⟩, by rw [List.length_cons, e2, List.length_cons]⟩
      obtain ⟨k, hk, ek⟩ := List.mem_filterMap.mp z
      have := h.tree.inj i a k (h.tree.lt a ha) (h.tree.lt k (s k (List.mem_cons_of_mem _ hk))) hi ek
      exact h1.1 (this ▸ hk)
  obtain ⟨n, e⟩ := key used h.tree.nd fun _ z => z
  rw [← e]
  have := nodup_len (used.filterMap ow) (List.range row) n fun i hi => by
    obtain ⟨k, hk, ek⟩ := List.mem_filterMap.mp hi
    exact List.mem_range.mpr (h.tree.own i k (h.tree.lt k hk) ek)
  rw [List.length_range] at this
  exact this
/-- some column is open -/
theorem open_one {row m : Nat} {c : Nat → Nat → Int} {u v : Nat → Int} {ow : Nat → Option Nat} {used : List Nat} {here : Nat} {col : Option Nat} {best : Nat → Option Int} {came : Nat → Option Nat}
    (h : Head row m c u v ow used here col best came) (hm : row < m) : ∃ k, k < m ∧ k ∉ used := by
  have hl := used_len h
  refine Classical.byContradiction fun hn => ?_
  have := nodup_len (List.range m) used List.nodup_range fun x hx => by
    refine Classical.byContradiction fun hx2 => hn ⟨x, List.mem_range.mp hx, hx2⟩
  rw [List.length_range] at this
  omega

/-! ### the pairs are of the least cost -/
def sumTo (f : Nat → Int) : Nat → Int
  | 0 => 0
  | n + 1 => sumTo f n + f n
theorem sumTo_congr {f g : Nat → Int} : ∀ n, (∀ i, i < n → f i = g i) → sumTo f n = sumTo g n
  | 0, _ => rfl
  | n + 1, h => by
    show sumTo f n + f n = sumTo g n + g n
    rw [sumTo_congr n fun i hi => h i (Nat.lt_succ_of_lt hi), h n (Nat.lt_succ_self n)]
theorem sumTo_le {f g : Nat → Int} : ∀ n, (∀ i, i < n → f i ≤ g i) → sumTo f n ≤ sumTo g n
  | 0, _ => Int.le_refl _
  | n + 1, h => by
    show sumTo f n + f n ≤ sumTo g n + g n
    have h1 := sumTo_le n fun i hi => h i (Nat.lt_succ_of_lt hi)
    have h2 := h n (Nat.lt_succ_self n)
    omega
theorem sumTo_add (f g : Nat → Int) : ∀ n, sumTo (fun i => f i + g i) n = sumTo f n + sumTo g n
  | 0 => rfl
  | n + 1 => by
    show sumTo (fun i => f i + g i) n + (f n + g n) = sumTo f n + f n + (sumTo g n + g n)
    rw [sumTo_add f g n]
    omega
theorem sumTo_neg (f : Nat → Int) : ∀ n, sumTo (fun i => - f i) n = - sumTo f n
  | 0 => rfl
  | n + 1 => by
    show sumTo (fun i => - f i) n + - f n = -(sumTo f n + f n)
    rw [sumTo_neg f n]
    omega
theorem sumTo_mul (a : Int) (f : Nat → Int) : ∀ n, sumTo (fun i => a * f i) n = a * sumTo f n
  | 0 => by
    show (0 : Int) = a * 0
    rw [Int.mul_zero]
  | n + 1 => by
    show sumTo (fun i => a * f i) n + a * f n = a * (sumTo f n + f n)
    rw [sumTo_mul a f n, Int.mul_add]
theorem sumTo_zero : ∀ n, sumTo (fun _ => 0) n = 0
  | 0 => rfl
  | n + 1 => by
    show sumTo (fun _ => 0) n + 0 = 0
    rw [sumTo_zero n]
    rfl
theorem sumTo_list (f : Nat → Int) (g : Nat → Nat) : ∀ n, sumTo (fun i => f (g i)) n = (((List.range n).map g).map f).sum
  | 0 => rfl
  | n + 1 => by
    show sumTo (fun i => f (g i)) n + f (g n) = _
    rw [sumTo_list f g n, List.range_succ, List.map_append, List.map_append, List.sum_append]
    simp
theorem perm_sum {l r : List Int} (h : l.Perm r) : l.sum = r.sum := by
  induction h with
  | nil => rfl
  | cons x _ ih => rw [List.sum_cons, List.sum_cons, ih]
  | swap x y l =>
    rw [List.sum_cons, List.sum_cons, List.sum_cons, List.sum_cons]
    omega
  | trans _ _ ih1 ih2 => exact ih1.trans ih2
theorem sum_erase {f : Nat → Int} {r : List Nat} {a : Nat} (h : a ∈ r) : (r.map f).sum = f a + ((r.erase a).map f).sum := by
  have := perm_sum ((List.perm_cons_erase h).map f)
  rw [this, List.map_cons, List.sum_cons]
/-- a part of a sum of what is not above nought -/
theorem sum_part {f : Nat → Int} : ∀ (l r : List Nat), l.Nodup → (∀ x, x ∈ l → x ∈ r) → (∀ x, x ∈ r → f x ≤ 0) → (r.map f).sum ≤ (l.map f).sum
  | [], r, _, _, h => by
    show (r.map f).sum ≤ 0
    induction r with
    | nil => exact Int.le_refl _
    | cons a r ih =>
      rw [List.map_cons, List.sum_cons]
      have h1 := h a List.mem_cons_self
      have h2 := ih (fun x hx => by cases hx) fun x hx => h x (List.mem_cons_of_mem _ hx)
      omega
  | a :: l, r, nd, s, h => by
    have h1 := List.nodup_cons.mp nd
    have ha : a ∈ r := s a List.mem_cons_self
    rw [sum_erase ha, List.map_cons, List.sum_cons]
    have := sum_part l (r.erase a) h1.2 (fun x hx => (List.mem_erase_of_ne (fun z : x = a => h1.1 (by rw [← z]; exact hx))).mpr (s x (List.mem_cons_of_mem _ hx))) fun x hx => h x (List.mem_of_mem_erase hx)
    omega
/-- .. all of it, where the rest is nought -/
theorem sum_whole {f : Nat → Int} : ∀ (l r : List Nat), l.Nodup → r.Nodup → (∀ x, x ∈ l → x ∈ r) → (∀ x, x ∈ r → x ∉ l → f x = 0) → (l.map f).sum = (r.map f).sum
  | [], r, _, _, _, h => by
    show 0 = (r.map f).sum
    induction r with
    | nil => rfl
    | cons a r ih =>
      rw [List.map_cons, List.sum_cons, h a List.mem_cons_self (by simp), Int.zero_add]
      rename_i hr hs
      exact ih (List.nodup_cons.mp hr).2 (fun x hx => by cases hx) fun x hx hn => h x (List.mem_cons_of_mem _ hx) hn
  | a :: l, r, nd, ndr, s, h => by
    have h1 := List.nodup_cons.mp nd
    have ha : a ∈ r := s a List.mem_cons_self
    rw [sum_erase ha, List.map_cons, List.sum_cons]
    have hne : ∀ x, x ∈ r.erase a → x ≠ a := fun x hx z => by
      rw [z] at hx
      exact (List.Nodup.not_mem_erase ndr) hx
    rw [sum_whole l (r.erase a) h1.2 (ndr.erase a) (fun x hx => (List.mem_erase_of_ne (fun z : x = a => h1.1 (by rw [← z]; exact hx))).mpr (s x (List.mem_cons_of_mem _ hx))) fun x hx hn => h x (List.mem_of_mem_erase hx) fun z => ?_]
    rcases List.mem_cons.mp z with z | z
    · exact hne x hx z
    · exact hn z

theorem nodup_map_range {g : Nat → Nat} {n : Nat} (h : ∀ i j, i < n → j < n → g i = g j → i = j) : ((List.range n).map g).Nodup := by
  rw [List.nodup_iff_pairwise_ne, List.pairwise_map]
  refine List.Pairwise.imp_of_mem (fun {a b} ha hb hne => ?_) (List.nodup_iff_pairwise_ne.mp (List.nodup_range (n := n)))
  exact fun z => hne (h a b (List.mem_range.mp ha) (List.mem_range.mp hb) z)

/-- THE PAIRS ARE OF THE LEAST COST -/
theorem Good.least {n m : Nat} {c : Nat → Nat → Int} {u v : Nat → Int} {ow : Nat → Option Nat} (G : Good n m c u v ow) {col g : Nat → Nat} (hc : ∀ i, i < n → col i < m ∧ ow (col i) = some i)
    (hg : ∀ i, i < n → g i < m) (gi : ∀ i j, i < n → j < n → g i = g j → i = j) : sumTo (fun i => c i (col i)) n ≤ sumTo (fun i => c i (g i)) n := by
  have ci : ∀ i j, i < n → j < n → col i = col j → i = j := fun i j hi hj e => by
    have h1 := (hc i hi).2
    rw [e, (hc j hj).2] at h1
    exact (Option.some.inj h1).symm
  have e1 : sumTo (fun i => c i (col i)) n = sumTo u n + sumTo (fun i => v (col i)) n := by
    rw [← sumTo_add]
    refine sumTo_congr n fun i hi => ?_
    have := G.tight i (col i) (hc i hi).1 (hc i hi).2
    show c i (col i) = u i + v (col i)
    have this' : c i (col i) - u i - v (col i) = 0 := this
    omega
  have e2 : sumTo u n + sumTo (fun i => v (g i)) n ≤ sumTo (fun i => c i (g i)) n := by
    rw [← sumTo_add]
    refine sumTo_le n fun i hi => ?_
    have := G.feas i (g i) hi (hg i hi)
    have this' : 0 ≤ c i (g i) - u i - v (g i) := this
    show u i + v (g i) ≤ c i (g i)
    omega
  have s1 : sumTo (fun i => v (col i)) n = ((List.range m).map v).sum := by
    rw [sumTo_list]
    refine sum_whole _ _ (nodup_map_range ci) List.nodup_range (fun x hx => ?_) fun x hx hn => ?_
    · obtain ⟨i, hi, e⟩ := List.mem_map.mp hx
      rw [← e]
      exact List.mem_range.mpr (hc i (List.mem_range.mp hi)).1
    · have hx' := List.mem_range.mp hx
      cases ex : ow x with
      | none => exact G.zero x hx' ex
      | some i =>
        have hi := G.own i x hx' ex
        have := G.inj i x (col i) hx' (hc i hi).1 ex (hc i hi).2
        exact absurd (List.mem_map.mpr ⟨i, List.mem_range.mpr hi, this.symm⟩) hn
  have s2 : ((List.range m).map v).sum ≤ sumTo (fun i => v (g i)) n := by
    rw [sumTo_list]
    refine sum_part _ _ (nodup_map_range gi) (fun x hx => ?_) fun x hx => G.neg x (List.mem_range.mp hx)
    obtain ⟨i, hi, e⟩ := List.mem_map.mp hx
    rw [← e]
    exact List.mem_range.mpr (hg i (List.mem_range.mp hi))
  omega
end G3

set_option autoImplicit false
/-! Givings, profiles, weights: plain Lean. -/
namespace G3

abbrev Giving := List (Option Nat)

/-! ### the longest list -/
def longest (ls : List (List Nat)) : Nat := (ls.map List.length).foldl max 0
theorem foldl_max_le : ∀ (l : List Nat) (a : Nat), a ≤ l.foldl max a ∧ ∀ x, x ∈ l → x ≤ l.foldl max a
  | [], a => ⟨Nat.le_refl a, fun x h => by cases h⟩
  | b :: l, a => by
    have ih := foldl_max_le l (max a b)
    refine ⟨Nat.le_trans (Nat.le_max_left a b) ih.1, fun x h => ?_⟩
    rcases List.mem_cons.mp h with e | h
    · rw [e]
      exact Nat.le_trans (Nat.le_max_right a b) ih.1
    · exact ih.2 x h
theorem foldl_max_mem : ∀ (l : List Nat) (a : Nat), l.foldl max a = a ∨ l.foldl max a ∈ l
  | [], a => .inl rfl
  | b :: l, a => by
    rcases foldl_max_mem l (max a b) with e | e
    · by_cases h : a ≤ b
      · rw [Nat.max_eq_right h] at e
        refine .inr ?_
        show List.foldl max (max a b) l ∈ b :: l
        rw [Nat.max_eq_right h, e]
        exact List.mem_cons_self
      · rw [Nat.max_eq_left (by omega)] at e
        refine .inl ?_
        show List.foldl max (max a b) l = a
        rw [Nat.max_eq_left (by omega), e]
    · exact .inr (List.mem_cons_of_mem _ e)
theorem le_longest {ls : List (List Nat)} {l : List Nat} (h : l ∈ ls) : l.length ≤ longest ls := (foldl_max_le _ 0).2 _ (List.mem_map.mpr ⟨l, h, rfl⟩)
theorem longest_of {ls : List (List Nat)} {m : Nat} (h1 : m = 0 ∨ ∃ l, l ∈ ls ∧ l.length = m) (h2 : ∀ l, l ∈ ls → l.length ≤ m) : longest ls = m := by
  refine Nat.le_antisymm ?_ ?_
  · rcases foldl_max_mem (ls.map List.length) 0 with e | e
    · unfold longest
      rw [e]
      exact Nat.zero_le m
    · obtain ⟨l, hl, e2⟩ := List.mem_map.mp e
      unfold longest
      rw [← e2]
      exact h2 l hl
  · rcases h1 with e | ⟨l, hl, e⟩
    · rw [e]
      exact Nat.zero_le _
    · rw [← e]
      exact le_longest hl

/-! ### givings -/
structure Giv (ls : List (List Nat)) (g : Giving) : Prop where
  len : g.length = ls.length
  listed : ∀ (i t : Nat), g[i]? = some (some t) → ∃ l, ls[i]? = some l ∧ t ∈ l
  once : ∀ (i j t : Nat), g[i]? = some (some t) → g[j]? = some (some t) → i = j

def okT (row : Giving) (t : Option Nat) : Bool := decide (t = none) || !(decide (t ∈ row))
def ext1 (order : List Nat) (row : Giving) : List Giving := ((none :: order.map some).filter (okT row)).map fun t => row ++ [t]
def stepG (found : List Giving) (order : List Nat) : List Giving := (found.map (ext1 order)).flatten
def givs (ls : List (List Nat)) : List Giving := ls.foldl stepG [[]]

theorem mem_ext1 {order : List Nat} {row g : Giving} : g ∈ ext1 order row ↔ ∃ t, g = row ++ [t] ∧ ∀ x, t = some x → x ∈ order ∧ some x ∉ row := by
  unfold ext1
  rw [List.mem_map]
  constructor
  · rintro ⟨t, ht, rfl⟩
    obtain ⟨h1, h2⟩ := List.mem_filter.mp ht
    refine ⟨t, rfl, fun x e => ?_⟩
    subst e
    refine ⟨?_, ?_⟩
    · rcases List.mem_cons.mp h1 with z | z
      · cases z
      · obtain ⟨y, hy, e⟩ := List.mem_map.mp z
        cases e
        exact hy
    · unfold okT at h2
      simpa using h2
  · rintro ⟨t, rfl, h⟩
    refine ⟨t, List.mem_filter.mpr ⟨?_, ?_⟩, rfl⟩
    · cases t with
      | none => exact List.mem_cons_self
      | some x => exact List.mem_cons_of_mem _ (List.mem_map.mpr ⟨x, (h x rfl).1, rfl⟩)
    · unfold okT
      cases t with
      | none => rfl
      | some x => simpa using (h x rfl).2

theorem getElem?_snoc_lt {α : Type} {l : List α} {a : α} {i : Nat} (h : i < l.length) : (l ++ [a])[i]? = l[i]? := List.getElem?_append_left h
theorem getElem?_snoc_eq {α : Type} {l : List α} {a : α} : (l ++ [a])[l.length]? = some a := by simp

theorem Giv.snoc {pre : List (List Nat)} {o : List Nat} {row : Giving} {t : Option Nat} (h : Giv pre row) (ht : ∀ x, t = some x → x ∈ o ∧ some x ∉ row) : Giv (pre ++ [o]) (row ++ [t]) := by
  have hl := h.len
  have cases_ : ∀ i x, (row ++ [t])[i]? = some (some x) → (i < row.length ∧ row[i]? = some (some x)) ∨ (i = row.length ∧ t = some x) := fun i x e => by
    by_cases hi : i < row.length
    · rw [getElem?_snoc_lt hi] at e
      exact .inl ⟨hi, e⟩
    · have hi2 : i < (row ++ [t]).length := (List.getElem?_eq_some_iff.mp e).1
      rw [List.length_append, List.length_singleton] at hi2
      have : i = row.length := by omega
      subst this
      rw [getElem?_snoc_eq] at e
      exact .inr ⟨rfl, Option.some.inj e⟩
  refine ⟨by rw [List.length_append, List.length_append, hl]; rfl, fun i x e => ?_, fun i j x e e' => ?_⟩
  · rcases cases_ i x e with ⟨hi, e⟩ | ⟨hi, e⟩
    · obtain ⟨l, h1, h2⟩ := h.listed i x e
      exact ⟨l, by rw [getElem?_snoc_lt (by omega)]; exact h1, h2⟩
    · refine ⟨o, ?_, (ht x e).1⟩
      rw [hi, hl]
      exact getElem?_snoc_eq
  · rcases cases_ i x e with ⟨hi, e⟩ | ⟨hi, e⟩
    · rcases cases_ j x e' with ⟨hj, e'⟩ | ⟨hj, e'⟩
      · exact h.once i j x e e'
      · exact absurd (List.mem_of_getElem? e) (ht x e').2
    · rcases cases_ j x e' with ⟨hj, e'⟩ | ⟨hj, e'⟩
      · exact absurd (List.mem_of_getElem? e') (ht x e).2
      · rw [hi, hj]
theorem Giv.unsnoc {pre : List (List Nat)} {o : List Nat} {g : Giving} (h : Giv (pre ++ [o]) g) : ∃ row t, g = row ++ [t] ∧ Giv pre row ∧ ∀ x, t = some x → x ∈ o ∧ some x ∉ row := by
  have hl := h.len
  rw [List.length_append, List.length_singleton] at hl
  rcases List.eq_nil_or_concat g with e | ⟨row, t, e⟩
  · rw [e] at hl
    cases hl
  · rw [List.concat_eq_append] at e
    subst e
    rw [List.length_append, List.length_singleton] at hl
    have hl' : row.length = pre.length := by omega
    have up : ∀ i x, row[i]? = some (some x) → (row ++ [t])[i]? = some (some x) := fun i x e => by
      rw [getElem?_snoc_lt (List.getElem?_eq_some_iff.mp e).1]
      exact e
    refine ⟨row, t, rfl, ⟨hl', fun i x e => ?_, fun i j x e e' => h.once i j x (up i x e) (up j x e')⟩, fun x e => ⟨?_, fun hm => ?_⟩⟩
    · obtain ⟨l, h1, h2⟩ := h.listed i x (up i x e)
      have hi := (List.getElem?_eq_some_iff.mp e).1
      rw [getElem?_snoc_lt (by omega)] at h1
      exact ⟨l, h1, h2⟩
    · have e2 : (row ++ [t])[row.length]? = some (some x) := by rw [getElem?_snoc_eq, e]
      obtain ⟨l, h1, h2⟩ := h.listed _ x e2
      rw [hl', getElem?_snoc_eq] at h1
      cases h1
      exact h2
    · obtain ⟨i, hi, e3⟩ := List.getElem_of_mem hm
      have e4 : row[i]? = some (some x) := by rw [List.getElem?_eq_getElem hi, e3]
      have e2 : (row ++ [t])[row.length]? = some (some x) := by rw [getElem?_snoc_eq, e]
      have := h.once i row.length x (up i x e4) e2
      omega
theorem mem_stepG {pre : List (List Nat)} {o : List Nat} {S : List Giving} (h : ∀ g, g ∈ S ↔ Giv pre g) (g : Giving) : g ∈ stepG S o ↔ Giv (pre ++ [o]) g := by
  unfold stepG
  rw [List.mem_flatten]
  constructor
  · rintro ⟨l, hl, hg⟩
    obtain ⟨row, hr, rfl⟩ := List.mem_map.mp hl
    obtain ⟨t, rfl, ht⟩ := mem_ext1.mp hg
    exact ((h row).mp hr).snoc ht
  · intro hg
    obtain ⟨row, t, rfl, hr, ht⟩ := hg.unsnoc
    exact ⟨ext1 o row, List.mem_map.mpr ⟨row, (h row).mpr hr, rfl⟩, mem_ext1.mpr ⟨t, rfl, ht⟩⟩
theorem mem_foldG : ∀ (rest pre : List (List Nat)) (S : List Giving), (∀ g, g ∈ S ↔ Giv pre g) → ∀ g, g ∈ rest.foldl stepG S ↔ Giv (pre ++ rest) g
  | [], pre, S, h, g => by
    rw [List.append_nil]
    exact h g
  | o :: rest, pre, S, h, g => by
    have := mem_foldG rest (pre ++ [o]) (stepG S o) (mem_stepG h) g
    rw [List.append_assoc] at this
    exact this
theorem mem_givs {ls : List (List Nat)} {g : Giving} : g ∈ givs ls ↔ Giv ls g := by
  have := mem_foldG ls [] [[]] (fun g => ?_) g
  · exact this
  · rw [List.mem_singleton]
    constructor
    · rintro rfl
      exact ⟨rfl, fun i t e => by simp at e, fun i j t e => by simp at e⟩
    · intro h
      exact List.eq_nil_of_length_eq_zero h.len
/-- nothing for all is one of them -/
theorem giv_none (ls : List (List Nat)) : Giv ls (List.replicate ls.length none) := by
  have key : ∀ i t, (List.replicate ls.length (none : Option Nat))[i]? ≠ some (some t) := fun i t e => by
    have := List.mem_of_getElem? e
    rw [List.mem_replicate] at this
    cases this.2
  exact ⟨List.length_replicate, fun i t e => absurd e (key i t), fun i j t e => absurd e (key i t)⟩

/-! ### sums over givings, counts -/
def place (ls : List (List Nat)) (i t : Nat) : Nat := (ls.getD i []).idxOf t
def got (g : Giving) (i : Nat) : Option Nat := g.getD i none
def val (ls : List (List Nat)) (w : Nat → Int) (g : Giving) (i : Nat) : Int := match got g i with
  | none => 0
  | some t => w (place ls i t)
def wsum (ls : List (List Nat)) (w : Nat → Int) (g : Giving) : Int := sumTo (val ls w g) ls.length
def hit (ls : List (List Nat)) (g : Giving) (p i : Nat) : Int := match got g i with
  | none => 0
  | some t => if place ls i t = p then 1 else 0
def cnt (ls : List (List Nat)) (g : Giving) (p : Nat) : Int := sumTo (hit ls g p) ls.length
def prof (ls : List (List Nat)) (g : Giving) : List Int := (List.range (longest ls)).map (cnt ls g)

theorem got_some {g : Giving} {i t : Nat} (h : got g i = some t) : g[i]? = some (some t) := by
  unfold got at h
  rw [List.getD_eq_getElem?_getD] at h
  cases e : g[i]? with
  | none =>
    rw [e] at h
    cases h
  | some x =>
    rw [e] at h
    have : x = some t := h
    rw [this]
theorem got_of {g : Giving} {i : Nat} {x : Option Nat} (h : g[i]? = some x) : got g i = x := by
  unfold got
  rw [List.getD_eq_getElem?_getD, h]
  rfl
theorem Giv.place_lt {ls : List (List Nat)} {g : Giving} (h : Giv ls g) {i t : Nat} (e : got g i = some t) : place ls i t < longest ls := by
  obtain ⟨l, h1, h2⟩ := h.listed i t (got_some e)
  unfold place
  rw [List.getD_eq_getElem?_getD, h1]
  exact Nat.lt_of_lt_of_le (List.idxOf_lt_length_iff.mpr h2) (le_longest (List.mem_of_getElem? h1))

theorem sumTo_swap (F : Nat → Nat → Int) (n : Nat) : ∀ m, sumTo (fun p => sumTo (F p) n) m = sumTo (fun k => sumTo (fun p => F p k) m) n
  | 0 => by
    show (0 : Int) = sumTo (fun _ => 0) n
    exact (sumTo_zero n).symm
  | m + 1 => by
    show sumTo (fun p => sumTo (F p) n) m + sumTo (F m) n = sumTo (fun k => sumTo (fun p => F p k) m + F m k) n
    rw [sumTo_swap F n m, sumTo_add]
theorem sumTo_one (f : Nat → Int) (q : Nat) : ∀ m, sumTo (fun p => f p * (if q = p then 1 else 0)) m = if q < m then f q else 0
  | 0 => rfl
  | m + 1 => by
    show sumTo (fun p => f p * (if q = p then 1 else 0)) m + f m * (if q = m then 1 else 0) = _
    rw [sumTo_one f q m]
    by_cases e : q = m
    · rw [if_pos e, if_neg (by omega), if_pos (by omega), Int.mul_one, e, Int.zero_add]
    · rw [if_neg e, Int.mul_zero, Int.add_zero]
      by_cases h : q < m
      · rw [if_pos h, if_pos (by omega)]
      · rw [if_neg h, if_neg (by omega)]
/-- a giving's worth is told by its counts -/
theorem wsum_cnt {ls : List (List Nat)} {g : Giving} (h : Giv ls g) (w : Nat → Int) : wsum ls w g = sumTo (fun p => w p * cnt ls g p) (longest ls) := by
  have e : sumTo (fun p => w p * cnt ls g p) (longest ls) = sumTo (fun p => sumTo (fun k => w p * hit ls g p k) ls.length) (longest ls) :=
    sumTo_congr _ fun p _ => (sumTo_mul (w p) (hit ls g p) ls.length).symm
  rw [e, sumTo_swap]
  refine sumTo_congr _ fun k _ => ?_
  unfold val hit
  cases ek : got g k with
  | none =>
    show (0 : Int) = sumTo (fun p => w p * 0) (longest ls)
    rw [sumTo_congr (g := fun _ => 0) _ fun p _ => Int.mul_zero (w p), sumTo_zero]
  | some t =>
    show w (place ls k t) = sumTo (fun p => w p * (if place ls k t = p then 1 else 0)) (longest ls)
    rw [sumTo_one, if_pos (h.place_lt ek)]

theorem sumTo_nonneg {f : Nat → Int} : ∀ n, (∀ i, i < n → 0 ≤ f i) → 0 ≤ sumTo f n
  | 0, _ => Int.le_refl _
  | n + 1, h => by
    have h1 := sumTo_nonneg n fun i hi => h i (Nat.lt_succ_of_lt hi)
    have h2 := h n (Nat.lt_succ_self n)
    show 0 ≤ sumTo f n + f n
    omega
theorem sumTo_ub {f : Nat → Int} {b : Int} : ∀ n, (∀ i, i < n → f i ≤ b) → sumTo f n ≤ b * n
  | 0, _ => by
    show (0 : Int) ≤ b * 0
    rw [Int.mul_zero]
    exact Int.le_refl _
  | n + 1, h => by
    have h1 := sumTo_ub n fun i hi => h i (Nat.lt_succ_of_lt hi)
    have h2 := h n (Nat.lt_succ_self n)
    show sumTo f n + f n ≤ b * ((n + 1 : Nat) : Int)
    rw [Int.natCast_succ, Int.mul_add, Int.mul_one]
    omega
theorem hit_le (ls : List (List Nat)) (g : Giving) (p i : Nat) : 0 ≤ hit ls g p i ∧ hit ls g p i ≤ 1 := by
  unfold hit
  cases got g i with
  | none =>
    show (0 : Int) ≤ 0 ∧ (0 : Int) ≤ 1
    decide
  | some t =>
    show 0 ≤ (if place ls i t = p then (1 : Int) else 0) ∧ (if place ls i t = p then (1 : Int) else 0) ≤ 1
    by_cases e : place ls i t = p
    · rw [if_pos e]
      exact ⟨by decide, by decide⟩
    · rw [if_neg e]
      exact ⟨by decide, by decide⟩
theorem cnt_nonneg (ls : List (List Nat)) (g : Giving) (p : Nat) : 0 ≤ cnt ls g p := sumTo_nonneg _ fun i _ => (hit_le ls g p i).1
theorem cnt_le (ls : List (List Nat)) (g : Giving) (p : Nat) : cnt ls g p ≤ (ls.length : Int) := by
  have := sumTo_ub (f := hit ls g p) (b := 1) ls.length fun i _ => (hit_le ls g p i).2
  rw [Int.one_mul] at this
  exact this
/-- how many get something -/
def many (ls : List (List Nat)) (g : Giving) : Int := wsum ls (fun _ => 1) g
theorem many_cnt {ls : List (List Nat)} {g : Giving} (h : Giv ls g) : many ls g = sumTo (cnt ls g) (longest ls) := by
  unfold many
  rw [wsum_cnt h]
  exact sumTo_congr _ fun p _ => Int.one_mul _
theorem sum_map_range (f : Nat → Int) (n : Nat) : ((List.range n).map f).sum = sumTo f n := by
  have := sumTo_list f (fun i => i) n
  rw [this, List.map_id']
theorem many_prof {ls : List (List Nat)} {g : Giving} (h : Giv ls g) : (prof ls g).sum = many ls g := by
  rw [many_cnt h]
  exact sum_map_range _ _

/-! ### numbers by their digits -/
/-- the value of digits, the first one the greatest -/
def hval (b : Int) (l : List Int) : Int := l.foldl (fun a x => a * b + x) 0
theorem foldl_hval (b : Int) : ∀ (l : List Int) (a : Int), l.foldl (fun a x => a * b + x) a = a * b ^ l.length + hval b l
  | [], a => by
    show a = a * b ^ 0 + 0
    rw [Int.pow_zero, Int.mul_one, Int.add_zero]
  | x :: l, a => by
    show l.foldl (fun a x => a * b + x) (a * b + x) = a * b ^ (l.length + 1) + l.foldl (fun a x => a * b + x) (0 * b + x)
    rw [foldl_hval b l (a * b + x), foldl_hval b l (0 * b + x), Int.zero_mul, Int.zero_add, Int.add_mul, Int.pow_succ, Int.mul_assoc, Int.mul_comm b, Int.add_assoc]
theorem hval_cons (b x : Int) (l : List Int) : hval b (x :: l) = x * b ^ l.length + hval b l := by
  show l.foldl (fun a x => a * b + x) (0 * b + x) = _
  rw [foldl_hval, Int.zero_mul, Int.zero_add]
theorem pow_pos' {b : Int} (h : 0 < b) : ∀ n : Nat, 0 < b ^ n
  | 0 => by
    rw [Int.pow_zero]
    decide
  | n + 1 => by
    rw [Int.pow_succ]
    exact Int.mul_pos (pow_pos' h n) h
theorem hval_bound {b : Int} (hb : 0 < b) : ∀ l : List Int, (∀ x, x ∈ l → 0 ≤ x ∧ x < b) → 0 ≤ hval b l ∧ hval b l < b ^ l.length
  | [], _ => by
    show (0 : Int) ≤ 0 ∧ (0 : Int) < b ^ 0
    rw [Int.pow_zero]
    decide
  | x :: l, h => by
    have ih := hval_bound hb l fun y hy => h y (List.mem_cons_of_mem _ hy)
    have hx := h x List.mem_cons_self
    rw [hval_cons, List.length_cons, Int.pow_succ]
    have hp := pow_pos' hb l.length
    have h1 : 0 ≤ x * b ^ l.length := Int.mul_nonneg hx.1 (Int.le_of_lt hp)
    have h2 : x * b ^ l.length ≤ (b - 1) * b ^ l.length := Int.mul_le_mul_of_nonneg_right (by omega) (Int.le_of_lt hp)
    have h3 : (b - 1) * b ^ l.length = b ^ l.length * b - b ^ l.length := by rw [Int.sub_mul, Int.one_mul, Int.mul_comm]
    omega
/-- the order of tuples -/
def lexL : List Int → List Int → Bool
  | [], [] => false
  | [], _ :: _ => true
  | _ :: _, [] => false
  | x :: xs, y :: ys => if x = y then lexL xs ys else decide (x < y)
theorem lexL_hval {b : Int} (hb : 0 < b) : ∀ (p q : List Int), p.length = q.length → (∀ x, x ∈ p → 0 ≤ x ∧ x < b) → (∀ x, x ∈ q → 0 ≤ x ∧ x < b) → lexL p q = true → hval b p < hval b q
  | [], [], _, _, _, h => by cases h
  | [], _ :: _, e, _, _, _ => by cases e
  | _ :: _, [], e, _, _, _ => by cases e
  | x :: p, y :: q, e, hp, hq, h => by
    have el : p.length = q.length := by simpa using e
    rw [hval_cons, hval_cons]
    have bp := hval_bound hb p fun z hz => hp z (List.mem_cons_of_mem _ hz)
    have bq := hval_bound hb q fun z hz => hq z (List.mem_cons_of_mem _ hz)
    by_cases exy : x = y
    · subst exy
      have h' : lexL p q = true := by
        have : (if x = x then lexL p q else decide (x < x)) = true := h
        rw [if_pos rfl] at this
        exact this
      have := lexL_hval hb p q el (fun z hz => hp z (List.mem_cons_of_mem _ hz)) (fun z hz => hq z (List.mem_cons_of_mem _ hz)) h'
      rw [el]
      omega
    · have h' : x < y := by
        have : (if x = y then lexL p q else decide (x < y)) = true := h
        rw [if_neg exy] at this
        exact of_decide_eq_true this
      have pw := pow_pos' hb q.length
      have h1 : (x + 1) * b ^ q.length ≤ y * b ^ q.length := Int.mul_le_mul_of_nonneg_right (by omega) (Int.le_of_lt pw)
      have h2 : (x + 1) * b ^ q.length = x * b ^ q.length + b ^ q.length := by rw [Int.add_mul, Int.one_mul]
      rw [el] at bp ⊢
      omega
theorem lexL_irrefl : ∀ p : List Int, lexL p p = false
  | [] => rfl
  | x :: p => by
    show (if x = x then lexL p p else decide (x < x)) = false
    rw [if_pos rfl]
    exact lexL_irrefl p
theorem lexL_total : ∀ p q : List Int, lexL p q = false → lexL q p = false → p = q
  | [], [], _, _ => rfl
  | [], _ :: _, h, _ => by cases h
  | _ :: _, [], _, h => by cases h
  | x :: p, y :: q, h1, h2 => by
    have h1' : (if x = y then lexL p q else decide (x < y)) = false := h1
    have h2' : (if y = x then lexL q p else decide (y < x)) = false := h2
    by_cases e : x = y
    · subst e
      rw [if_pos rfl] at h1' h2'
      rw [lexL_total p q h1' h2']
    · rw [if_neg e] at h1'
      rw [if_neg (fun z => e z.symm)] at h2'
      have a := of_decide_eq_false h1'
      have b := of_decide_eq_false h2'
      omega
theorem lexL_neg : ∀ p q : List Int, p.length = q.length → lexL (p.map fun x => 0 - x) (q.map fun x => 0 - x) = lexL q p
  | [], [], _ => rfl
  | [], _ :: _, e => by cases e
  | _ :: _, [], e => by cases e
  | x :: p, y :: q, e => by
    have el : p.length = q.length := by simpa using e
    show (if 0 - x = 0 - y then lexL (p.map fun x => 0 - x) (q.map fun x => 0 - x) else decide (0 - x < 0 - y)) = (if y = x then lexL q p else decide (y < x))
    rw [lexL_neg p q el]
    by_cases h : x = y
    · subst h
      rw [if_pos rfl, if_pos rfl]
    · rw [if_neg (by omega), if_neg (fun z => h z.symm)]
      exact decide_eq_decide.mpr (by omega)

theorem hval_range (b : Int) (f : Nat → Int) : ∀ n, hval b ((List.range n).map f) = sumTo (fun p => b ^ (n - 1 - p) * f p) n
  | 0 => rfl
  | n + 1 => by
    have e : hval b ((List.range (n + 1)).map f) = hval b ((List.range n).map f) * b + f n := by
      unfold hval
      rw [List.range_succ, List.map_append, List.foldl_append]
      rfl
    rw [e, hval_range b f n]
    show _ = sumTo (fun p => b ^ (n + 1 - 1 - p) * f p) n + b ^ (n + 1 - 1 - n) * f n
    have e2 : sumTo (fun p => b ^ (n + 1 - 1 - p) * f p) n = b * sumTo (fun p => b ^ (n - 1 - p) * f p) n := by
      rw [← sumTo_mul]
      refine sumTo_congr n fun p hp => ?_
      have : n + 1 - 1 - p = (n - 1 - p) + 1 := by omega
      rw [this, Int.pow_succ, Int.mul_comm _ b, Int.mul_assoc]
    rw [e2, Nat.add_sub_cancel, Nat.sub_self, Int.pow_zero, Int.one_mul, Int.mul_comm]
theorem sumTo_rev (f : Nat → Int) : ∀ n, sumTo (fun p => f (n - 1 - p)) n = sumTo f n
  | 0 => rfl
  | n + 1 => by
    have key : ∀ (g : Nat → Int) m, sumTo g (m + 1) = g 0 + sumTo (fun p => g (p + 1)) m := by
      intro g m
      induction m with
      | zero =>
        show (0 : Int) + g 0 = g 0 + 0
        omega
      | succ m ih =>
        show sumTo g (m + 1) + g (m + 1) = g 0 + (sumTo (fun p => g (p + 1)) m + g (m + 1))
        rw [ih]
        omega
    rw [key]
    have : sumTo (fun p => f (n + 1 - 1 - (p + 1))) n = sumTo (fun p => f (n - 1 - p)) n := sumTo_congr n fun p hp => by
      have : n + 1 - 1 - (p + 1) = n - 1 - p := by omega
      rw [this]
    rw [this, sumTo_rev f n]
    show f n + sumTo f n = sumTo f n + f n
    omega
theorem reverse_range_map (f : Nat → Int) (n : Nat) : ((List.range n).map f).reverse = (List.range n).map fun p => f (n - 1 - p) := by
  refine List.ext_getElem (by simp) fun i h1 h2 => ?_
  simp only [List.length_reverse, List.length_map, List.length_range] at h1 h2
  simp
theorem hval_rev (b : Int) (f : Nat → Int) (n : Nat) : hval b ((List.range n).map f).reverse = sumTo (fun p => b ^ p * f p) n := by
  rw [reverse_range_map, hval_range]
  exact sumTo_rev (fun p => b ^ p * f p) n

/-! ### THE BEST GIVINGS -/
/-- of the greatest worth -/
def Best (ls : List (List Nat)) (w : Nat → Int) (g : Giving) : Prop := Giv ls g ∧ ∀ g', Giv ls g' → wsum ls w g' ≤ wsum ls w g

section
variable {ls : List (List Nat)} {g g' : Giving}
theorem prof_len : (prof ls g).length = longest ls := by
  unfold prof
  rw [List.length_map, List.length_range]
theorem prof_digit {x : Int} (h : x ∈ prof ls g) : 0 ≤ x ∧ x < (ls.length : Int) + 1 := by
  obtain ⟨p, _, e⟩ := List.mem_map.mp h
  rw [← e]
  have := cnt_nonneg ls g p
  have := cnt_le ls g p
  omega
theorem base_pos : (0 : Int) < (ls.length : Int) + 1 := by omega
/-- most firsts -/
theorem Best.firsts (h : Best ls (fun p => ((ls.length : Int) + 1) ^ (longest ls - 1 - p)) g) (h' : Giv ls g') : lexL (prof ls g) (prof ls g') = false := by
  cases e : lexL (prof ls g) (prof ls g') with
  | false => rfl
  | true =>
    have lt := lexL_hval base_pos _ _ (prof_len.trans prof_len.symm) (fun x => prof_digit) (fun x => prof_digit) e
    have e1 := hval_range ((ls.length : Int) + 1) (cnt ls g) (longest ls)
    have e2 := hval_range ((ls.length : Int) + 1) (cnt ls g') (longest ls)
    have w1 := wsum_cnt h.1 fun p => ((ls.length : Int) + 1) ^ (longest ls - 1 - p)
    have w2 := wsum_cnt h' fun p => ((ls.length : Int) + 1) ^ (longest ls - 1 - p)
    have le := h.2 g' h'
    have : hval ((ls.length : Int) + 1) (prof ls g') ≤ hval ((ls.length : Int) + 1) (prof ls g) := by
      show hval _ ((List.range (longest ls)).map (cnt ls g')) ≤ hval _ ((List.range (longest ls)).map (cnt ls g))
      rw [e1, e2, ← w1, ← w2]
      exact le
    omega
/-- a sum of a great number less something small -/
theorem wsum_sub {B : Int} {f : Nat → Int} (h : Giv ls g) : wsum ls (fun p => B - f p) g = B * many ls g - sumTo (fun p => f p * cnt ls g p) (longest ls) := by
  rw [wsum_cnt h, many_cnt h, ← sumTo_mul]
  have : sumTo (fun p => (B - f p) * cnt ls g p) (longest ls) + sumTo (fun p => f p * cnt ls g p) (longest ls) = sumTo (fun i => B * cnt ls g i) (longest ls) := by
    rw [← sumTo_add]
    exact sumTo_congr _ fun p _ => by rw [← Int.add_mul, Int.sub_add_cancel]
  omega
theorem Best.most {B : Int} {f : Nat → Int} (h : Best ls (fun p => B - f p) g) (lo : ∀ g', Giv ls g' → 0 ≤ sumTo (fun p => f p * cnt ls g' p) (longest ls) ∧ sumTo (fun p => f p * cnt ls g' p) (longest ls) < B) (h' : Giv ls g') :
    many ls g' ≤ many ls g ∧ (many ls g' = many ls g → sumTo (fun p => f p * cnt ls g p) (longest ls) ≤ sumTo (fun p => f p * cnt ls g' p) (longest ls)) := by
  have le := h.2 g' h'
  rw [wsum_sub h.1, wsum_sub h'] at le
  have b1 := lo g h.1
  have b2 := lo g' h'
  refine ⟨?_, fun e => by rw [e] at le; omega⟩
  refine Int.not_lt.mp fun hlt => ?_
  have h1 : B * (many ls g + 1) ≤ B * many ls g' := Int.mul_le_mul_of_nonneg_left (by omega) (by omega)
  rw [Int.mul_add, Int.mul_one] at h1
  omega
/-- fewest lasts -/
theorem Best.lasts {b B : Int} (hb : b = (ls.length : Int) + 1) (hB : B = b ^ (longest ls) * b) (h : Best ls (fun p => B - b ^ p) g) (h' : Giv ls g') :
    many ls g' ≤ many ls g ∧ (many ls g' = many ls g → lexL (((prof ls g).reverse).map fun x => 0 - x) (((prof ls g').reverse).map fun x => 0 - x) = false) := by
  have bp : 0 < b := by rw [hb]; exact base_pos
  have bnd : ∀ g', Giv ls g' → 0 ≤ sumTo (fun p => b ^ p * cnt ls g' p) (longest ls) ∧ sumTo (fun p => b ^ p * cnt ls g' p) (longest ls) < B := fun g' hg => by
    rw [← hval_rev]
    have d := hval_bound bp (prof ls g').reverse fun x hx => by
      rw [hb]
      exact prof_digit (List.mem_reverse.mp hx)
    rw [List.length_reverse, prof_len] at d
    have p1 := pow_pos' bp (longest ls)
    have : b ^ (longest ls) * 1 ≤ b ^ (longest ls) * b := Int.mul_le_mul_of_nonneg_left (by omega) (Int.le_of_lt p1)
    rw [Int.mul_one] at this
    have d1 : 0 ≤ hval b ((List.range (longest ls)).map (cnt ls g')).reverse := d.1
    have d2 : hval b ((List.range (longest ls)).map (cnt ls g')).reverse < b ^ (longest ls) := d.2
    omega
  have m := Best.most (f := fun p => b ^ p) h bnd h'
  refine ⟨m.1, fun e => ?_⟩
  have le := m.2 e
  rw [← hval_rev, ← hval_rev] at le
  have el : (prof ls g).reverse.length = (prof ls g').reverse.length := by rw [List.length_reverse, List.length_reverse, prof_len, prof_len]
  rw [lexL_neg _ _ el]
  cases e2 : lexL (prof ls g').reverse (prof ls g).reverse with
  | false => rfl
  | true =>
    have lt := lexL_hval bp _ _ el.symm (fun x hx => by rw [hb]; exact prof_digit (List.mem_reverse.mp hx)) (fun x hx => by rw [hb]; exact prof_digit (List.mem_reverse.mp hx)) e2
    have le' : hval b (prof ls g).reverse ≤ hval b (prof ls g').reverse := le
    omega
/-- the sum of places -/
def placeSum (ls : List (List Nat)) (g : Giving) : Int := sumTo (fun p => (p : Int) * cnt ls g p) (longest ls)
theorem placeSum_wsum (h : Giv ls g) : placeSum ls g = wsum ls (fun p => (p : Int)) g := (wsum_cnt h _).symm
theorem placeSum_bound (h : Giv ls g) : 0 ≤ placeSum ls g ∧ placeSum ls g ≤ (longest ls : Int) * (ls.length : Int) := by
  rw [placeSum_wsum h]
  refine ⟨sumTo_nonneg _ fun i _ => ?_, sumTo_ub _ fun i _ => ?_⟩
  · unfold val
    cases got g i with
    | none => exact Int.le_refl _
    | some t => exact Int.natCast_nonneg _
  · unfold val
    cases e : got g i with
    | none => exact Int.natCast_nonneg _
    | some t =>
      have := h.place_lt e
      show ((place ls i t : Nat) : Int) ≤ _
      omega
theorem Best.sums {B : Int} (hB : B = ((longest ls : Int) + 1) * ((ls.length : Int) + 1)) (h : Best ls (fun p => B - (p : Int)) g) (h' : Giv ls g') :
    many ls g' ≤ many ls g ∧ (many ls g' = many ls g → placeSum ls g ≤ placeSum ls g') := by
  refine Best.most (f := fun p => (p : Int)) h (fun g' hg => ?_) h'
  have b := placeSum_bound hg
  refine ⟨b.1, ?_⟩
  have : placeSum ls g' < B := by
    rw [hB, Int.add_mul, Int.mul_add, Int.mul_one, Int.one_mul]
    have := b.2
    omega
  exact this
end

/-! ### worths as a table, pairs by columns -/
/-- a row's worth at a column -/
def worth (w : Nat → Int) (l : List Nat) (t : Nat) : Int := if t ∈ l then w (l.idxOf t) else 0
/-- what the search is run over: less the worths, then noughts -/
def costs (ls : List (List Nat)) (wide : Nat) (w : Nat → Int) (i j : Nat) : Int := if j < wide then 0 - worth w (ls.getD i []) j else 0
/-- what is told of a column: the thing, if it is listed -/
def told (ls : List (List Nat)) (pairs : Nat → Option Nat) (i : Nat) : Option Nat := match pairs i with
  | none => none
  | some t => if t ∈ ls.getD i [] then some t else none
theorem told_some {ls : List (List Nat)} {pairs : Nat → Option Nat} {i t : Nat} (h : told ls pairs i = some t) : pairs i = some t ∧ t ∈ ls.getD i [] := by
  unfold told at h
  cases e : pairs i with
  | none =>
    rw [e] at h
    cases h
  | some x =>
    rw [e] at h
    have h' : (if x ∈ ls.getD i [] then some x else none) = some t := h
    by_cases hm : x ∈ ls.getD i []
    · rw [if_pos hm] at h'
      cases h'
      exact ⟨rfl, hm⟩
    · rw [if_neg hm] at h'
      cases h'
theorem got_map {f : Nat → Option Nat} {n i : Nat} (h : i < n) : got ((List.range n).map f) i = f i := by
  refine got_of ?_
  rw [List.getElem?_map, List.getElem?_range h]
  rfl
theorem getElem?_map_range {α : Type} {f : Nat → α} {n i : Nat} {x : α} (h : ((List.range n).map f)[i]? = some x) : i < n ∧ f i = x := by
  have hi : i < n := by
    have := (List.getElem?_eq_some_iff.mp h).1
    simpa using this
  rw [List.getElem?_map, List.getElem?_range hi] at h
  exact ⟨hi, by simpa using h⟩
/-- THE PAIRS OF THE SEARCH ARE A GIVING OF THE GREATEST WORTH -/
theorem Good.best {ls : List (List Nat)} {wide : Nat} {w : Nat → Int} {u v : Nat → Int} {ow : Nat → Option Nat} (G : Good ls.length (wide + ls.length) (costs ls wide w) u v ow)
    (hl : ∀ l, l ∈ ls → ∀ t, t ∈ l → t < wide) {pairs : Nat → Option Nat} (hp1 : ∀ i j, i < ls.length → pairs i = some j → j < wide ∧ ow j = some i) (hp2 : ∀ i j, j < wide → ow j = some i → pairs i = some j) :
    Best ls w ((List.range ls.length).map (told ls pairs)) := by
  have lsAt : ∀ i, i < ls.length → ls[i]? = some (ls.getD i []) := fun i hi => by
    rw [List.getD_eq_getElem?_getD, List.getElem?_eq_getElem hi]
    rfl
  have hG : Giv ls ((List.range ls.length).map (told ls pairs)) := by
    refine ⟨by simp, fun i t e => ?_, fun i j t e e' => ?_⟩
    · obtain ⟨hi, e2⟩ := getElem?_map_range e
      exact ⟨_, lsAt i hi, (told_some e2).2⟩
    · obtain ⟨hi, e2⟩ := getElem?_map_range e
      obtain ⟨hj, e3⟩ := getElem?_map_range e'
      have h1 := hp1 i t hi (told_some e2).1
      have h2 := hp1 j t hj (told_some e3).1
      rw [h1.2] at h2
      exact Option.some.inj h2.2
  -- the column of each row
  have colx : ∀ i, ∃ j, i < ls.length → j < wide + ls.length ∧ ow j = some i := fun i => by
    by_cases hi : i < ls.length
    · obtain ⟨j, h1, h2⟩ := G.all i hi
      exact ⟨j, fun _ => ⟨h1, h2⟩⟩
    · exact ⟨0, fun h => absurd h hi⟩
  refine ⟨hG, fun g' hg' => ?_⟩
  let col : Nat → Nat := fun i => Classical.choose (colx i)
  have hc : ∀ i, i < ls.length → col i < wide + ls.length ∧ ow (col i) = some i := fun i hi => Classical.choose_spec (colx i) hi
  let gc : Nat → Nat := fun i => match got g' i with
    | none => wide + i
    | some t => t
  have gcN : ∀ i, got g' i = none → gc i = wide + i := fun i e => by
    show (match got g' i with | none => wide + i | some t => t) = _
    rw [e]
  have gcS : ∀ i t, got g' i = some t → gc i = t := fun i t e => by
    show (match got g' i with | none => wide + i | some t => t) = _
    rw [e]
  have tlt : ∀ i t, got g' i = some t → t < wide := fun i t e => by
    obtain ⟨l, h1, h2⟩ := hg'.listed i t (got_some e)
    exact hl l (List.mem_of_getElem? h1) t h2
  have hg : ∀ i, i < ls.length → gc i < wide + ls.length := fun i hi => by
    cases e : got g' i with
    | none =>
      rw [gcN i e]
      omega
    | some t =>
      rw [gcS i t e]
      have := tlt i t e
      omega
  have gi : ∀ i j, i < ls.length → j < ls.length → gc i = gc j → i = j := fun i j hi hj h => by
    cases e : got g' i with
    | none =>
      cases e' : got g' j with
      | none =>
        rw [gcN i e, gcN j e'] at h
        omega
      | some t =>
        rw [gcN i e, gcS j t e'] at h
        have := tlt j t e'
        omega
    | some t =>
      cases e' : got g' j with
      | none =>
        rw [gcS i t e, gcN j e'] at h
        have := tlt i t e
        omega
      | some t' =>
        rw [gcS i t e, gcS j t' e'] at h
        subst h
        exact hg'.once i j t (got_some e) (got_some e')
  have least := G.least hc hg gi
  -- both sums told by worths
  have s1 : sumTo (fun i => costs ls wide w i (gc i)) ls.length = - wsum ls w g' := by
    rw [show - wsum ls w g' = sumTo (fun i => - val ls w g' i) ls.length from (sumTo_neg _ _).symm]
    refine sumTo_congr _ fun i hi => ?_
    unfold val
    cases e : got g' i with
    | none =>
      rw [gcN i e]
      unfold costs
      rw [if_neg (by omega)]
      rfl
    | some t =>
      obtain ⟨l, h1, h2⟩ := hg'.listed i t (got_some e)
      rw [gcS i t e]
      unfold costs worth
      rw [if_pos (tlt i t e), show ls.getD i [] = l by rw [List.getD_eq_getElem?_getD, h1]; rfl, if_pos h2]
      show 0 - w (l.idxOf t) = - w ((ls.getD i []).idxOf t)
      rw [show ls.getD i [] = l by rw [List.getD_eq_getElem?_getD, h1]; rfl]
      omega
  have s2 : sumTo (fun i => costs ls wide w i (col i)) ls.length = - wsum ls w ((List.range ls.length).map (told ls pairs)) := by
    rw [show - wsum ls w ((List.range ls.length).map (told ls pairs)) = sumTo (fun i => - val ls w ((List.range ls.length).map (told ls pairs)) i) ls.length from (sumTo_neg _ _).symm]
    refine sumTo_congr _ fun i hi => ?_
    have hci := hc i hi
    unfold val
    rw [got_map hi]
    unfold costs worth
    by_cases hw : col i < wide
    · rw [if_pos hw]
      have hp := hp2 i (col i) hw hci.2
      have et : told ls pairs i = if col i ∈ ls.getD i [] then some (col i) else none := by
        unfold told
        rw [hp]
      rw [et]
      by_cases hm : col i ∈ ls.getD i []
      · rw [if_pos hm, if_pos hm]
        show 0 - w _ = - w (place ls i (col i))
        unfold place
        omega
      · rw [if_neg hm, if_neg hm]
        rfl
    · rw [if_neg hw]
      have et : told ls pairs i = none := by
        unfold told
        cases e : pairs i with
        | none => rfl
        | some j =>
          have h1 := hp1 i j hi e
          have := G.inj i j (col i) (by omega) hci.1 h1.2 hci.2
          omega
      rw [et]
      rfl
  omega
end G3

set_option Elab.async false
set_option linter.all false
set_option maxRecDepth 100000
set_option maxHeartbeats 2000000
/-! Generators over lists and tuples: what their elements may lean on; any(..) of tests that are all false. -/
namespace G3
open PySem PySem.Spec PyProof.Rows L2
section
variable {X : Cx} {pins : List (Addr × Obj)} {σ : L2.St} {H H1 : Hp} {s s1 s2 s3 : Shared}

/-- a list or a tuple that is read, walked: its iterator, whatever it is -/
theorem seq_iter {a : Addr} {xs : List V} (I : Inv X pins σ H s) (hq : SqL X.K H a xs ∨ SqT X.K H a xs) :
    ∃ (o : Obj) (its : List Value) (St : Nat → Heap → Prop), Vals xs its ∧ a < s.heap.objs.size ∧
      (∀ (A : Around) (E : Value → Shared → Prop) (Q : Value → Shared → Prop), Q (.ref s.heap.objs.size) { s with heap := s.heap.push o } → wpAny (model X.prog X.w) A (pyIter (.ref a)) Q E s) ∧
      (∀ A' : Around, A'.handled = none → Walks X.prog X.w A' s.heap.objs.size [s.heap.objs.size, a] [s.heap.objs.size] its.toArray.size (fun i v => its.toArray[i]? = some v) St) ∧
      (∀ h' : Heap, h'.get? s.heap.objs.size = some o → (∀ u, s.heap.get? a = some u → h'.get? a = some u) → St 0 h') ∧ o.isFreed = false ∧ (∀ i h', St i h' → ∃ u, h'.get? s.heap.objs.size = some u) := by
  rcases hq with hq | hq
  · obtain ⟨its, rv, pl, hz⟩ := I.list hq
    have hL := pl.isList
    have ha : a < s.heap.objs.size := by
      obtain ⟨_, e, _⟩ := id hL
      exact Heap.lt_size e
    refine ⟨_, its, _, rv, ha, fun A E Q hQ => wpAny_pyIter_list hL hQ, fun A' hA => Walks.list hA _ _ (Nat.ne_of_lt ha) its.toArray, fun h' ho hk => ⟨⟨_, ho, rfl, rfl⟩, ?_⟩, rfl, fun i h' st => let ⟨⟨u, e, _⟩, _⟩ := st; ⟨u, e⟩⟩
    obtain ⟨u, e, r⟩ := id hL
    exact ⟨u, hk u e, r⟩
  · obtain ⟨its, rv, pl, hz⟩ := I.tuple hq
    have hT : s.heap.IsTuple a its.toArray := pl
    have ha : a < s.heap.objs.size := by
      obtain ⟨_, e, _⟩ := id hT
      exact Heap.lt_size e
    refine ⟨_, its, _, rv, ha, fun A E Q hQ => wpAny_pyIter_tuple hT hQ, fun A' hA => Walks.tuple hA _ _ (Nat.ne_of_lt ha) its.toArray, fun h' ho hk => ⟨⟨_, ho, rfl, rfl⟩, ?_⟩, rfl, fun i h' st => let ⟨⟨u, e, _⟩, _⟩ := st; ⟨u, e⟩⟩
    obtain ⟨u, e, r⟩ := id hT
    exact ⟨u, hk u e, r⟩

/-- a generator's frame as its elements meet it: it runs over a state that has kept all that stood at s1 but the table at P -/
structure GEnv (X : Cx) (pins : List (Addr × Obj)) (σ : L2.St) (H1 : Hp) (s1 : Shared) (P : Addr) (scope : Scope) (cenv : Env) (s2 : Shared) : Prop where
  inv : Inv X pins σ H1 s1
  sc : cenv.scope = scope
  cells : cenv.cells = cloFrom X.env.cells scope.names []
  globals : cenv.globals = mainGlobals
  builtins : cenv.builtins = builtinsNs
  tab : ∃ ps, H1 P = some (.tbl ps)
  keep : ∀ b o, b ≠ P → s1.heap.get? b = some o → s2.heap.get? b = some o
section
variable {P : Addr} {scope : Scope} {cenv : Env} {A : Around} {E : Value → Shared → Prop} {Q : Value → Shared → Prop}
theorem GEnv.up (G : GEnv X pins σ H1 s1 P scope cenv s2) (k : ∀ b o, s2.heap.get? b = some o → s3.heap.get? b = some o) : GEnv X pins σ H1 s1 P scope cenv s3 :=
  ⟨G.inv, G.sc, G.cells, G.globals, G.builtins, G.tab, fun b o hb e => k b o (G.keep b o hb e)⟩
theorem GEnv.tabAt (G : GEnv X pins σ H1 s1 P scope cenv s2) : ∃ ps, s1.heap.get? P = some { cls := .none, data := .fields ps } := by
  obtain ⟨ps, h⟩ := G.tab
  exact ⟨ps, G.inv.hok P _ h⟩
theorem GEnv.base (G : GEnv X pins σ H1 s1 P scope cenv s2) : ∀ b o, X.base.get? b = some o → s2.heap.get? b = some o := fun b o e => by
  obtain ⟨h1, h2⟩ := G.inv.bs b o e
  refine G.keep b o (fun z => ?_) h1
  obtain ⟨ps, h⟩ := G.tab
  rw [z, h] at h2
  cases h2
/-- a list, a tuple that is read -/
theorem GEnv.list (G : GEnv X pins σ H1 s1 P scope cenv s2) {a : Addr} {xs : List V} (h : SqL X.K H1 a xs) : ∃ its : List Value, Vals xs its ∧ s2.heap.IsList a its.toArray ∧ xs.length ≤ sizeLine := by
  obtain ⟨its, rv, pl, hz⟩ := G.inv.list h
  obtain ⟨o, e, hc, r⟩ := pl.isList
  obtain ⟨ps, hp⟩ := G.tabAt
  refine ⟨its, rv, ⟨o, G.keep a o (fun z => ?_) e, hc, r⟩, hz⟩
  rw [z, hp] at e
  cases e
  cases hc
theorem GEnv.tuple (G : GEnv X pins σ H1 s1 P scope cenv s2) {a : Addr} {xs : List V} (h : SqT X.K H1 a xs) : ∃ its : List Value, Vals xs its ∧ s2.heap.IsTuple a its.toArray ∧ xs.length ≤ sizeLine := by
  obtain ⟨its, rv, pl, hz⟩ := G.inv.tuple h
  obtain ⟨o, e, hc, r⟩ := (show s1.heap.IsTuple a its.toArray from pl)
  obtain ⟨ps, hp⟩ := G.tabAt
  refine ⟨its, rv, ⟨o, G.keep a o (fun z => ?_) e, hc, r⟩, hz⟩
  rw [z, hp] at e
  cases e
  cases hc
/-- a captured name -/
theorem GEnv.free (G : GEnv X pins σ H1 s1 P scope cenv s2) {j : Nat} {y : Str} {v : V} {pos : Pos} (hk : scope.kind = .function) (hl : scope.names.lookup y = some .free) (hN : X.N[j]? = some y) (hv : σ[j]? = some (some v)) (hy : X.env.scope.names.lookup y = some .cell)
    (h : ∀ u, RelV v u → Q u s2) (hd : (y == ("__debug__" : Str)) = false := by decide) (hcd : (y == ("__classdict__" : Str)) = false := by decide) : wpAny (model X.prog X.w) A (eval (.Name y pos) cenv) Q E s2 := by
  obtain ⟨m, _, look⟩ := G.inv.loc
  obtain ⟨u, r, l⟩ := look j y v hN hv (.inr (.inl hy))
  rcases l with ⟨k, _⟩ | ⟨_, c, hc, hcell⟩
  · have k' : X.env.scope.names.lookup y = some .local := k
    rw [hy] at k'
    cases k'
  · obtain ⟨c', e'⟩ := mem_lookup (cloFrom_has (cells := X.env.cells) (acc := []) (PySem.mem_of_lookup hl))
    have ec : c' = c := by
      rcases cloFrom_mem (PySem.mem_of_lookup e') with z | ⟨_, z⟩
      · cases z
      · rw [z, hc]
        rfl
    subst ec
    obtain ⟨o, ho, hod⟩ := hcell
    obtain ⟨ps, hp⟩ := G.tabAt
    have hcP : c' ≠ P := fun z => by
      rw [z, hp] at ho
      cases ho
      cases hod
    refine wpAny_Name (wpAny_loadName_free (by rw [G.sc]; exact hk) (show cenv.scope.names.lookup y = some .free by rw [G.sc]; exact hl) (by rw [G.cells]; exact e') ⟨o, G.keep _ _ hcP ho, hod⟩ (h u r) hcd) hd
/-- a name of the built-in ones -/
theorem GEnv.bltn (G : GEnv X pins σ H1 s1 P scope cenv s2) {y : Str} {u : Value} {pos : Pos} (hk : scope.kind = .function) (hl : scope.names.lookup y = some .globalImplicit) (hm : X.mg y = none) (hb : bootBuiltins y = some u) (h : Q u s2)
    (hn : y ≠ "__name__" := by decide) (hd : (y == ("__debug__" : Str)) = false := by decide) : wpAny (model X.prog X.w) A (eval (.Name y pos) cenv) Q E s2 := by
  obtain ⟨mb, h1, h2⟩ := G.inv.mod.blt
  exact Calls.Name_function_global (by rw [G.sc]; exact hk) (show cenv.scope.names.lookup y = some .globalImplicit by rw [G.sc]; exact hl)
    (Calls.loadGlobal_builtin (by rw [G.globals]; exact G.inv.mod.glob.keeps G.base) hm (by rw [G.builtins]; exact h1.keeps G.base) ((h2 y hn).trans hb) h) hd
/-- a name of its own -/
theorem GEnv.own (G : GEnv X pins σ H1 s1 P scope cenv s2) {y : Str} {u : Value} {m : Str → Option Value} {pos : Pos} (hk : scope.kind = .function) (hl : scope.names.lookup y = some .local) (hn : s2.heap.Ns cenv.locals m) (hm : m y = some u) (h : Q u s2)
    (hd : (y == ("__debug__" : Str)) = false := by decide) : wpAny (model X.prog X.w) A (eval (.Name y pos) cenv) Q E s2 :=
  wpAny_Name (wpAny_loadName_local (by rw [G.sc]; exact hk) (show cenv.scope.names.lookup y = some .local by rw [G.sc]; exact hl) hn hm h) hd
end

/-- the code object of a generator, and its built-in names: what stands behind them -/
theorem gen_code {c P : Addr} {ps : Array Value} {h2 : Heap} {t2 : Nat} {scope : Scope} {gpos : Pos} {K : Value → Addr → Shared → Prop} (I : Inv X pins σ H1 s1) (TB : GxR.TabB X.base X.mg c P) (hcode : X.env.code = .ref c)
    (hP : H1 P = some (.tbl ps)) (ht : TriplesOk ps.toList) (k2 : ∀ b o, s1.heap.get? b = some o → h2.get? b = some o)
    (hK : ∀ (code : Value) (h3 : Heap) (tk : Nat) (more : Array Value), (∀ b o, b ≠ P → h2.get? b = some o → h3.get? b = some o) → h2.objs.size ≤ h3.objs.size → h3.get? P = some { cls := .none, data := .fields (ps ++ more) } → TriplesOk (ps ++ more).toList →
      h3.NoLimit → K code builtinsNs { s1 with heap := h3, toks := tk }) :
    h2.NoLimit ∧ wpAny (model X.prog X.w) X.A (genexprCode X.env gpos (X.env.qual ++ "<genexpr>") scope) (fun code s3 => wpAny (model X.prog X.w) X.A (builtinsFor X.env.globals X.env.builtins) (fun bi s4 => K code bi s4) X.xe s3) X.xe { s1 with heap := h2, toks := t2 } := by
  have hPs : s1.heap.get? P = some { cls := .none, data := .fields ps } := I.hok P _ hP
  have hP2 := k2 _ _ hPs
  have lim : h2.NoLimit := I.nolimit.keeps k2
  refine ⟨lim, ?_⟩
  have kb : ∀ b o, X.base.get? b = some o → h2.get? b = some o := fun b o e => k2 b o (I.bk b o e)
  have cd : PySem.W.CodeHd h2 c P := TB.code.keeps kb
  have hcP : cStatics ≠ P := fun e => by
    obtain ⟨_, ⟨o, es, ep, ho, hd, _⟩, _⟩ := I.nolimit
    rw [e, hPs] at ho
    cases ho
    cases hd
  have fin : ∀ (code : Value) (h3 : Heap) (tk : Nat) (more : Array Value), (∀ b o, b ≠ P → h2.get? b = some o → h3.get? b = some o) → h2.objs.size ≤ h3.objs.size → h3.get? P = some { cls := .none, data := .fields (ps ++ more) } → TriplesOk (ps ++ more).toList →
      wpAny (model X.prog X.w) X.A (builtinsFor X.env.globals X.env.builtins) (fun bi s4 => K code bi s4) X.xe { s1 with heap := h3, toks := tk } := fun code h3 tk more hx hsz h3P h3t => by
    obtain ⟨bm, ob, e1, e2, e3, e4, e5, e6, e7, e8⟩ := TB.bm
    have glob : h3.Ns X.env.globals X.mg := by
      rw [I.ok.glob]
      exact (I.mod.glob.keeps kb).extBut hx TB.gP
    exact wpAny_builtinsFor glob e1 e2 (hx bm ob e4 (kb _ _ e5)) e6 e7 e8 (hK code h3 tk more hx hsz h3P h3t (lim.extBut hx hcP))
  cases hf : codeAmong gpos ps.toList with
  | none =>
    refine wpAny_genexprCodeX hcode (cd.code hP2 ht) (cd.tab hP2) hf fun c' h' tk hx hge hlt hco _ htab _ => ?_
    obtain ⟨_, _, _, _, _, _, _, _, _, _, _, _, _, _, _, _, _, _, _, htr, _⟩ := hco
    exact fin _ h' tk _ hx (Nat.le_trans hge (Nat.le_of_lt hlt)) htab.2 htr
  | some cv =>
    refine wpAny_genexprCode_hit hcode (cd.code hP2 ht) hf ?_
    exact fin cv h2 t2 #[] (fun _ _ _ e => e) (Nat.le_refl _) (by simpa using hP2) (by simpa using ht)

/-- behind the walk: the table has grown, all else that stood is kept -/
theorem gen_done {P : Addr} {ps more : Array Value} {s' : Shared} (I : Inv X pins σ H1 s1) (hP : H1 P = some (.tbl ps)) (k : ∀ b o, b ≠ P → s1.heap.get? b = some o → s'.heap.get? b = some o) (hm : s'.heap.get? P = some { cls := .none, data := .fields (ps ++ more) })
    (ht : TriplesOk (ps ++ more).toList) (hg : AllBare s'.gens) (ho : s'.os = s1.os) : ∃ H2, GxR.Tabbed P H1 H2 ∧ Inv X pins σ H2 s' := by
  have J := GxR.inv_tab (more := more) (h' := s'.heap) (g' := s'.gens) (d' := s'.drawn) (t' := s'.toks) I hP k hm hg
  rw [GxR.sh_eta s1 s' ho] at J
  exact ⟨_, ⟨⟨_, upd_same, ht⟩, fun b hb => upd_ne hb⟩, J⟩
end

/-- each element of the generator is False -/
def EltF (X : Cx) (P : Addr) (scope : Scope) (x : Str) (elt : Expr) (σ : L2.St) (H1 : Hp) (xs : List V) : Prop :=
  ∀ (pins : List (Addr × Obj)) (s1 : Shared) (cenv : Env) (s2 : Shared) (A' : Around) (E' : Value → Shared → Prop) (i : Nat) (xv : V) (v : Value) (m2 : Str → Option Value), GEnv X pins σ H1 s1 P scope cenv s2 → A'.handled = none → xs[i]? = some xv → RelV xv v →
    s2.heap.Ns cenv.locals m2 → m2 x = some v → wpAny (model X.prog X.w) A' (eval elt cenv) (fun y s3 => y = .bool false ∧ Keeps s2 s3) E' s2
/-- any(elt for x in e), no element true -/
def tAnyF (X : Cx) (P : Addr) (scope : Scope) (x : Str) (elt : Expr) (te : TE) : TE := fun σ H Q => te σ H fun v H1 => ∃ (yl : Addr) (xs : List V), v = .ref yl ∧ (SqL X.K H1 yl xs ∨ SqT X.K H1 yl xs) ∧ GxR.TabG H1 P ∧ EltF X P scope x elt σ H1 xs ∧
  ∀ H2, GxR.Tabbed P H1 H2 → Q (.bl false) H2
theorem any_false (n : Nat) : (List.range n).any (fun _ => false) = false := by
  rw [List.any_eq_false]
  intro _ _ h
  cases h
theorem pe_anyF {X : Cx} {c P : Addr} {elt iter : Expr} {x : Str} {px p pos gpos : Pos} {scope : Scope} {te : TE} {k : Nat} (hr : Room k X.A) (hg : Gl X "any") (hm : X.mg "any" = none) (TB : GxR.TabB X.base X.mg c P) (hcode : X.env.code = .ref c)
    (S : GxR.GenS X.env scope x) (hi : PE X iter te) (hs : ∀ v, genFold iter X.env v = pure v)
    (he : starEach [.GeneratorExp elt [⟨.Name x px, iter, [], 0⟩] scope gpos] X.env = (false, eval (.GeneratorExp elt [⟨.Name x px, iter, [], 0⟩] scope gpos) X.env) :: starEach [] X.env := by rfl) :
    PE X (.Call (.Name "any" p) [.GeneratorExp elt [⟨.Name x px, iter, [], 0⟩] scope gpos] [] pos) (tAnyF X P scope x elt te) := by
  refine ⟨fun pins s σ H Q I h => ?_⟩
  refine wpAny_Call_Name_kw (ld_blt I hg hm boot_any ?_)
  refine PyProof.Rows.callWith_builtin1 ?_ he (by rfl)
  rw [he]
  show wpAny _ _ (spliced ((false, eval (.GeneratorExp elt [⟨.Name x px, iter, [], 0⟩] scope gpos) X.env) :: backTo pos (starEach [] X.env))) _ _ s
  refine Calls.spliced_cons ?_
  refine wpAny_GeneratorExp_walksQ hr.hd S.co (closure_ok S.free) S.cell S.dot S.loc S.kind (by have := hr.dp; omega) ?_ hs
  refine thn (hi.run pins s σ H _ I h) fun xv s1 ⟨v, H1, I1, r1, q1⟩ => ?_
  obtain ⟨yl, xs, rfl, hq, ⟨ps, hP, ht⟩, hel, q⟩ := q1
  obtain rfl : xv = Value.ref yl := r1
  obtain ⟨o, its, St, rv, hlt, hiter, W, hst, hfr, _⟩ := seq_iter I1 hq
  refine hiter _ _ _ ?_
  have hPs : s1.heap.get? P = some { cls := .none, data := .fields ps } := I1.hok P _ hP
  have hPlt : P < s1.heap.objs.size := Heap.lt_size hPs
  have hylP : yl ≠ P := fun z => by
    rcases hq with hq | hq
    · obtain ⟨_, _, pl, _⟩ := I1.list hq
      obtain ⟨u, e, hc, _⟩ := pl.isList
      rw [z, hPs] at e
      cases e
      cases hc
    · obtain ⟨_, _, pl, _⟩ := I1.tuple hq
      obtain ⟨u, e, hc, _⟩ := (show s1.heap.IsTuple yl _ from pl)
      rw [z, hPs] at e
      cases e
      cases hc
  refine gen_code (t2 := s1.toks) (h2 := s1.heap.push o) I1 TB hcode hP ht (fun b u e => Heap.get?_push_of_some _ e) fun code h3 tk more hx hsz h3P h3t lim => ?_
  have sz2 : (s1.heap.push o).objs.size = s1.heap.objs.size + 1 := Heap.size_push ..
  have hz3 : s1.heap.objs.size < h3.objs.size := Nat.lt_of_lt_of_le (Nat.lt_of_lt_of_eq (Nat.lt_succ_self _) sz2.symm) hsz
  have keep3 : ∀ b u, b ≠ P → s1.heap.get? b = some u → h3.get? b = some u := fun b u hb e => hx b u hb (Heap.get?_push_of_some _ e)
  have hit3 : h3.get? s1.heap.objs.size = some o := hx _ _ (Nat.ne_of_gt hPlt) (Heap.get?_push_size _ hfr)
  refine ⟨s1.heap.objs.size, _, _, its.toArray.size, _, St, (fun _ => true), (fun _ y => y = .bool false), rfl, W, hst h3 hit3 (keep3 yl · hylP), ?_, lim, ?_, ?_, ?_⟩
  · intro b hb
    have : b ≤ s1.heap.objs.size := by
      rcases List.mem_cons.mp hb with z | z
      · exact Nat.le_of_eq z
      · rw [List.mem_singleton.mp z]
        exact Nat.le_of_lt hlt
    exact Nat.lt_of_le_of_lt this hz3
  · intro z
    have e := List.mem_singleton.mp z
    have hcl : cStatics < s1.heap.objs.size := let ⟨_, hns, _⟩ := I1.nolimit; hns.lt
    rw [e] at hcl
    exact Nat.lt_irrefl _ hcl
  · intro href hhref
    have genv : ∀ s₂ : Shared, (∀ b ∈ List.range h3.objs.size, b ∉ [s1.heap.objs.size] → ∀ u, href.get? b = some u → s₂.heap.get? b = some u) →
        GEnv X pins σ H1 s1 P scope (genEnv scope (cloFrom X.env.cells scope.names []) h3.objs.size code builtinsNs X.env) s₂ := fun s₂ hk => by
      refine ⟨I1, rfl, rfl, I1.ok.glob, rfl, ⟨ps, hP⟩, fun b u hb e => ?_⟩
      have e3 := keep3 b u hb e
      refine hk b (List.mem_range.mpr (Heap.lt_size e3)) (fun z => ?_) u (hhref b u e3)
      have := Heap.lt_size e
      rw [List.mem_singleton.mp z] at this
      exact Nat.lt_irrefl _ this
    refine ⟨fun A' E' i v s₂ m₂ hA hPv hn hm hk => ?_, fun A' E' i v s₂ m₂ hA hPv hp hn hm hk => ?_⟩
    · simp only [List.forIn_nil]
      exact wpAny_pure ⟨rfl, s₂.heap, s₂.toks, rfl, fun _ _ e => e⟩
    · have hv : its[i]? = some v := by simpa using hPv
      have hi2 : i < xs.length := by
        rw [rv.length]
        exact (List.getElem?_eq_some_iff.mp hv).1
      obtain ⟨u, hu, ru⟩ := rv.get (List.getElem?_eq_getElem hi2)
      rw [hv] at hu
      cases hu
      exact hel pins s1 _ s₂ A' E' i _ v m₂ (genv s₂ hk) hA (List.getElem?_eq_getElem hi2) ru hn hm
  · intro g h5 tk5 gs hgb hag hsz5 hk5 W5 hat
    have W6 := W5.in4_1
    refine Calls.spliced_nil ?_
    refine call_any_walkS (W6.self 0 _ _ _ hat ⟨g, _, _, _, _, _, _, fun _ => false, rfl, W6, hat, fun j y sj Qj Ej hy hQj => ?_, fun s' hmv => ?_⟩)
    · obtain ⟨i, _, rfl⟩ := hy
      exact wpAny_truthy_bool hQj
    · have nwr : ∀ b u, s1.heap.get? b = some u → b ∉ h3.objs.size :: [s1.heap.objs.size] := fun b u e hb => by
        have hl := Heap.lt_size e
        have hz := Nat.le_of_lt hz3
        rcases List.mem_cons.mp hb with z | z
        · rw [z] at hl
          exact Nat.lt_irrefl _ (Nat.lt_of_lt_of_le hl hz)
        · rw [List.mem_singleton.mp z] at hl
          exact Nat.lt_irrefl _ hl
      obtain ⟨H2, hT, J⟩ := gen_done I1 hP (fun b u hb e => hmv.heap b u (nwr b u e) (hk5 b u (keep3 b u hb e))) (hmv.heap P _ (nwr P _ hPs) (hk5 P _ h3P)) h3t (AllBare.movedS (I1.bare.push hgb) hmv) hmv.os
      refine ⟨.bl _, H2, J, rfl, ?_⟩
      rw [any_false]
      exact q H2 hT
end G3

set_option Elab.async false
set_option linter.all false
set_option maxRecDepth 100000
set_option maxHeartbeats 2000000
/-! A generator with two fors: any(test of y for x in rows for y in x), the rows tuples of numbers, no test true. -/
namespace G3
open PySem PySem.Spec PyProof.Rows L2
/-- what the end of such a generator leaves: all that stood at href but its frame at C and the outer iterator at I -/
def Kept (C I : Addr) (href h : Heap) : Prop := ∀ b o, b ≠ C → b ≠ I → href.get? b = some o → h.get? b = some o
def ChgH (s s' : Shared) : Prop := ∃ h' tk, s' = { s with heap := h', toks := tk }
def EndG (C I : Addr) (href : Heap) : GenEnd := fun n s₀ r s₁ => r = .ok .next ∧ n = 0 ∧ ChgH s₀ s₁ ∧ Kept C I href s₁.heap
def YldG (C I : Addr) (href : Heap) : Protocol := fun _ s₀ v s kap => v = .bool false ∧ ChgH s₀ s ∧ Kept C I href s.heap ∧ ∀ s'' : Shared, (∀ b o, s.heap.get? b = some o → s''.heap.get? b = some o) → kap (.send .none) s''
theorem ChgH.refl (s : Shared) : ChgH s s := ⟨s.heap, s.toks, rfl⟩
theorem ChgH.set {s s' : Shared} (h : ChgH s s') (h' : Heap) (tk : Nat) : ChgH s { s' with heap := h', toks := tk } := by
  obtain ⟨h1, t1, rfl⟩ := h
  exact ⟨h', tk, rfl⟩

abbrev gx2 (elt iter : Expr) (x y : Str) (px py p2 : Pos) (scope : Scope) (pos : Pos) : Expr := .GeneratorExp elt [⟨.Name x px, iter, [], 0⟩, ⟨.Name y py, .Name x p2, [], 0⟩] scope pos
section
variable {elt iter : Expr} {x y : Str} {px py p2 pos : Pos} {scope : Scope}
theorem turn_out (it acc : Value) (env : Env) : compTurn (gx2 elt iter x y px py p2 scope pos) 0 it acc env = (do
    standAt iter.pos
    match ← pyNext it with
    | none => pure (.done .next)
    | some v => do
      letOwnedTupleGo (.Name x px) it v
      assign (.Name x px) env v
      let u ← eval (.Name x p2) env
      standAt p2
      let it1 ← holding [u] (pyIter u)
      let _ ← runOwn (.compStart (gx2 elt iter x y px py p2 scope pos) 1 it1 acc env) env
      again (.compLoop (gx2 elt iter x y px py p2 scope pos) 0 it acc env)) := by rfl
theorem turn_in (it acc : Value) (env : Env) (hco : env.scope.isCoroutine = false) : compTurn (gx2 elt iter x y px py p2 scope pos) 1 it acc env = (do
    standAt p2
    match ← pyNext it with
    | none => pure (.done .next)
    | some v => do
      letOwnedTupleGo (.Name y py) it v
      assign (.Name y py) env v
      (do
        let u ← eval elt env
        standAt elt.pos
        let _ ← yieldValue u)
      again (.compLoop (gx2 elt iter x y px py p2 scope pos) 1 it acc env)) := by
  have hy : ∀ v, yieldOut env v = yieldValue v := fun v => by simp only [yieldOut, hco, Bool.false_eq_true, if_false]
  simp only [← hy]
  rfl
end

/-- the frame of such a generator, and its test -/
structure Two (prog : Program) (w : World) (cenv : Env) (x y : Str) (elt : Expr) (I : Addr) (href : Heap) : Prop where
  kx : cenv.scope.names.lookup x = some .local
  ky : cenv.scope.names.lookup y = some .local
  kind : cenv.scope.kind = .function
  co : cenv.scope.isCoroutine = false
  dx : (x == ("__debug__" : Str)) = false
  test : ∀ (A' : Around) (E' : Value → Shared → Prop) (z : Int) (t : Tok) (s₂ : Shared) (m₂ : Str → Option Value), A'.handled = none → 0 ≤ z → s₂.heap.Ns cenv.locals m₂ → m₂ y = some (.int z t) → Kept cenv.locals I href s₂.heap →
    wpAny (model prog w) A' (eval elt cenv) (fun u s₃ => u = .bool false ∧ Keeps s₂ s₃) E' s₂
theorem Two.plain {prog : Program} {w : World} {cenv : Env} {x y : Str} {elt : Expr} {I : Addr} {href : Heap} (T : Two prog w cenv x y elt I href) : (cenv.scope.kind == .class || (cenv.scope.kind == .module && cenv.locals != cenv.globals)) = false := by
  rw [T.kind]
  rfl
theorem over_none {A : Around} {c cc : Code} {k : Result → Sem Fin} {g : Bool} {l : List Value} {p : Pos} (h : A.handled = none) : (A.over c [.ret k none g l cc p []]).handled = none := h
section
variable {prog : Program} {w : World} {A : Around} {elt iter : Expr} {x y : Str} {px py p2 pos : Pos} {scope : Scope} {cenv : Env} {I : Addr} {href : Heap}
/-- the inner for: its iterator at it1 over the tuple at ra -/
theorem seg_in (T : Two prog w cenv x y elt I href) (hh : A.handled = none) {it1 ra : Addr} {its : Array Value} (hint : ∀ (i : Nat) (v : Value), its[i]? = some v → ∃ z t, v = .int z t ∧ 0 ≤ z) (hri : ra ≠ it1) (hC1 : it1 ≠ cenv.locals) (hCr : ra ≠ cenv.locals)
    (hi1 : href.get? it1 = none) {Out : Heap → Prop} (hOut : ∀ h h', Out h → (∀ b o, b ≠ cenv.locals → b ≠ it1 → h.get? b = some o → h'.get? b = some o) → Out h') {kk : Result → Sem Fin} {ll : List Value} {cc : Code} {pp : Pos} {N : Nat}
    (hend : ∀ (s₀ s' : Shared) (m : Str → Option Value), s'.heap.Ns cenv.locals m → Kept cenv.locals I href s'.heap → Out s'.heap → ChgH s₀ s' → Seg (model prog w) A (EndG cenv.locals I href) (YldG cenv.locals I href) N s₀ cc (kk (.ok .next)) [] s') :
    ∀ (k j : Nat) (s₀ s : Shared) (m : Str → Option Value), its.size - j = k → j ≤ its.size → s.heap.IsTupleIter it1 ra j → s.heap.IsTuple ra its → s.heap.Ns cenv.locals m → Kept cenv.locals I href s.heap → Out s.heap → ChgH s₀ s →
      Seg (model prog w) A (EndG cenv.locals I href) (YldG cenv.locals I href) (k + N) s₀ (.compLoop (gx2 elt iter x y px py p2 scope pos) 1 (.ref it1) .none cenv) ((model prog w).den (.compLoop (gx2 elt iter x y px py p2 scope pos) 1 (.ref it1) .none cenv)) [.ret kk none false ll cc pp []] s := by
  intro k
  induction k with
  | zero =>
    intro j s₀ s m hk hj hit ht hn hkp hout hch
    have hjn : j = its.size := by omega
    show Seg _ A _ _ _ s₀ _ ((compTurn (gx2 elt iter x y px py p2 scope pos) 1 (.ref it1) .none cenv).onRaise (fun x => do noteFrame x cenv; theTreesLotGoes x)) _ s
    rw [turn_in _ _ _ T.co, Sem.onRaise_eq_wrap, Nat.zero_add]
    refine seg_bind_wrap (wpAny_standAt ?_)
    refine seg_bind_wrap (wpAny_pyNext_tuple_end (over_none hh) hit ht (by rw [hjn]; simp) fun h' he => ?_)
    refine seg_leaf (.ok .next) (hend s₀ _ m (hn.at' fun o e => he _ o hC1.symm e) (fun b o h1 h2 e => he b o (fun z => ?_) (hkp b o h1 h2 e)) (hOut _ _ hout fun b o _ h2 e => he b o h2 e) (hch.set _ _))
    rw [z, hi1] at e
    cases e
  | succ k ih =>
    intro j s₀ s m hk hj hit ht hn hkp hout hch
    have hlt : j < its.size := by omega
    show Seg _ A _ _ _ s₀ _ ((compTurn (gx2 elt iter x y px py p2 scope pos) 1 (.ref it1) .none cenv).onRaise (fun x => do noteFrame x cenv; theTreesLotGoes x)) _ s
    rw [turn_in _ _ _ T.co, Sem.onRaise_eq_wrap, show k + 1 + N = (k + N) + 1 by omega]
    refine seg_bind_wrap (wpAny_standAt ?_)
    refine seg_bind_wrap (wpAny_pyNext_tuple_item hit ht (x := its[j]) (by simp [hlt]) fun h1 hit1 hs1 => ?_)
    obtain ⟨z, t, ez, hz⟩ := hint j its[j] (by simp [hlt])
    refine seg_bind_wrap (wpAny_of_eq (rfl : letOwnedTupleGo (.Name y py) (.ref it1) its[j] = pure ()) ?_)
    have hn1 : h1.Ns cenv.locals m := hn.at' fun o e => hs1.extBut _ o hC1.symm e
    refine seg_bind_wrap (wpAny_assign_Name (wpAny_storeName_local (show cenv.kindOf y = some .local from T.ky) hn1 (fun h2 hn2 hs2 => ?_) T.plain))
    have hk2 : Kept cenv.locals I href h2 := fun b o h1 h2 e => hs2.extBut b o h1 (hs1.extBut b o (fun z => by rw [z, hi1] at e; cases e) (hkp b o h1 h2 e))
    have hit2 : h2.IsTupleIter it1 ra (j + 1) := hit1.at fun o e => hs2.extBut _ o hC1 e
    have ht2 : h2.IsTuple ra its := (ht.at fun o e => hs1.extBut _ o hri e).at fun o e => hs2.extBut _ o hCr e
    have hout2 : Out h2 := hOut _ _ hout fun b o h1 h2 e => hs2.extBut b o h1 (hs1.extBut b o h2 e)
    rw [Sem.bind_eq_wrap', Sem.bind_eq_wrap', Sem.wrap_wrap, Sem.wrap_wrap]
    refine seg_wrap (wpAny_mono (T.test _ _ z t _ _ (over_none hh) hz hn2 (by simp [ez]) hk2) (fun u s4 h4 => ?_) fun _ _ e => e)
    obtain ⟨rfl, h4, tk4, rfl, hk4⟩ := h4
    refine seg_at (seg_yield rfl rfl rfl ⟨rfl, hch.set _ _, fun b o h1 h2 e => hk4 b o (hk2 b o h1 h2 e), fun s'' hal => ?_⟩)
    refine seg_again rfl (ih (j + 1) s'' s'' _ (by omega) hlt ((hit2.at fun o e => hk4 _ o e).at fun o e => hal _ o e) ((ht2.at fun o e => hk4 _ o e).at fun o e => hal _ o e) ((hn2.at' fun o e => hk4 _ o e).at' fun o e => hal _ o e)
      (fun b o h1 h2 e => hal b o (hk4 b o (hk2 b o h1 h2 e))) (hOut _ _ (hOut _ _ hout2 fun b o _ _ e => hk4 b o e) fun b o _ _ e => hal b o e) (ChgH.refl _))

/-- how many are still to come -/
def remN (lens : Nat → Nat) : Nat → Nat → Nat
  | 0, _ => 0
  | k + 1, i => lens i + remN lens k (i + 1)
/-- the outer for -/
theorem seg_out (T : Two prog w cenv x y elt I href) (hh : A.handled = none) {yl : Addr} {n₀ : Nat} {P : Nat → Value → Prop} {St : Nat → Heap → Prop} (W : ∀ A' : Around, A'.handled = none → Walks prog w A' I [I, yl] [I] n₀ P St) (hCI : I ≠ cenv.locals) (hCy : yl ≠ cenv.locals)
    (hlive : ∀ i h, St i h → ∃ u, h.get? I = some u) (hyl : ∃ u, href.get? yl = some u) (lens : Nat → Nat)
    (hrow : ∀ i v, P i v → ∃ ra its, v = .ref ra ∧ its.size = lens i ∧ (∀ (j : Nat) (u : Value), its[j]? = some u → ∃ z t, u = .int z t ∧ 0 ≤ z) ∧ ra ≠ cenv.locals ∧ ra ≠ I ∧ href.IsTuple ra its) :
    ∀ (k i : Nat) (s₀ s : Shared) (m : Str → Option Value), n₀ - i = k → i ≤ n₀ → St i s.heap → s.heap.Ns cenv.locals m → Kept cenv.locals I href s.heap → ChgH s₀ s →
      Seg (model prog w) A (EndG cenv.locals I href) (YldG cenv.locals I href) (remN lens k i) s₀ (.compLoop (gx2 elt iter x y px py p2 scope pos) 0 (.ref I) .none cenv) ((model prog w).den (.compLoop (gx2 elt iter x y px py p2 scope pos) 0 (.ref I) .none cenv)) [] s := by
  have hh' : (A.over (.compLoop (gx2 elt iter x y px py p2 scope pos) 0 (.ref I) .none cenv) []).handled = none := hh
  intro k
  induction k with
  | zero =>
    intro i s₀ s m hk hi hst hn hkp hch
    have hin : i = n₀ := by omega
    subst hin
    show Seg _ A _ _ _ s₀ _ ((compTurn (gx2 elt iter x y px py p2 scope pos) 0 (.ref I) .none cenv).onRaise (leaving cenv)) [] s
    rw [turn_out, Sem.onRaise_eq_wrap]
    refine seg_bind_wrap (wpAny_standAt ?_)
    refine seg_bind_wrap ((W _ hh').done s _ _ hst fun h' tk hk' => ?_)
    exact seg_end (.ok .next) ⟨rfl, rfl, hch.set _ _, fun b o h1 h2 e => hk' b o (fun z => h2 (List.mem_singleton.mp z)) (hkp b o h1 h2 e)⟩
  | succ k ih =>
    intro i s₀ s m hk hi hst hn hkp hch
    have hlt : i < n₀ := by omega
    show Seg _ A _ _ _ s₀ _ ((compTurn (gx2 elt iter x y px py p2 scope pos) 0 (.ref I) .none cenv).onRaise (leaving cenv)) [] s
    rw [turn_out, Sem.onRaise_eq_wrap]
    refine seg_bind_wrap (wpAny_standAt ?_)
    refine seg_bind_wrap ((W _ hh').item i s _ _ hlt hst fun v h1 tk1 hPv hst1 hk1 => ?_)
    have k1 : ∀ b o, b ≠ I → s.heap.get? b = some o → h1.get? b = some o := fun b o hb e => hk1 b o (fun z => hb (List.mem_singleton.mp z)) e
    refine seg_bind_wrap (wpAny_of_eq (rfl : letOwnedTupleGo (.Name x px) (.ref I) v = pure ()) ?_)
    refine seg_bind_wrap (wpAny_assign_Name (wpAny_storeName_local (show cenv.kindOf x = some .local from T.kx) (hn.at' fun o e => k1 _ o hCI.symm e) (fun h2 hn2 hs2 => ?_) T.plain))
    have hkp2 : Kept cenv.locals I href h2 := fun b o hb hI e => hs2.extBut b o hb (k1 b o hI (hkp b o hb hI e))
    have notC : ∀ b, b ∈ [I, yl] → b ≠ cenv.locals := fun b hb => by
      rcases List.mem_cons.mp hb with q | q
      · rw [q]
        exact hCI
      · rw [List.mem_singleton.mp q]
        exact hCy
    have hst2 : St (i + 1) h2 := (W A hh).frame _ _ _ hst1 fun b hb o e => hs2.extBut b o (notC b hb) e
    obtain ⟨ra, its, rfl, hlen, hint, hrC, hrI, hrt⟩ := hrow i v hPv
    have ht2 : h2.IsTuple ra its := hrt.at fun o e => hkp2 ra o hrC hrI e
    -- what stands in the walk's heap lies below its size
    have hCl : cenv.locals < h2.objs.size := hn2.lt
    have hIl : I < h2.objs.size := let ⟨u, e⟩ := hlive _ _ hst2; Heap.lt_size e
    have hyl2 : yl < h2.objs.size := by
      by_cases e : yl = I
      · rw [e]
        exact hIl
      · obtain ⟨u, eu⟩ := hyl
        exact Heap.lt_size (hkp2 yl u hCy e eu)
    have hrl : ra < h2.objs.size := let ⟨_, e, _⟩ := ht2; Heap.lt_size e
    have hnew : href.get? h2.objs.size = none := by
      cases e : href.get? h2.objs.size with
      | none => rfl
      | some u => exact absurd (Heap.lt_size (hkp2 _ u (Nat.ne_of_gt hCl) (Nat.ne_of_gt hIl) e)) (Nat.lt_irrefl _)
    refine seg_bind_wrap (wpAny_Name (wpAny_loadName_local T.kind (show cenv.kindOf x = some .local from T.kx) hn2 (show (if x = x then some (Value.ref ra) else m x) = some (Value.ref ra) from if_pos rfl) ?_) T.dx)
    refine seg_bind_wrap (wpAny_standAt ?_)
    refine seg_bind_wrap (wpAny_holding (wpAny_pyIter_tuple (t := ra) (items := its) ht2 ?_))
    have kp3 : ∀ b o, h2.get? b = some o → (h2.push { cls := .type "tuple_iterator", data := .fields #[.ref ra, .int 0 0] }).get? b = some o := fun b o e => Heap.get?_push_of_some _ e
    have hit3 : (h2.push { cls := .type "tuple_iterator", data := .fields #[.ref ra, .int 0 0] }).IsTupleIter h2.objs.size ra 0 := ⟨_, Heap.get?_push_size _ rfl, rfl, rfl⟩
    have hst3 := (W A hh).frame _ _ _ hst2 fun b _ o e => kp3 b o e
    have hOut : ∀ h h', St (i + 1) h → (∀ b o, b ≠ cenv.locals → b ≠ h2.objs.size → h.get? b = some o → h'.get? b = some o) → St (i + 1) h' := fun h h' st kk => (W A hh).frame _ _ _ st fun b hb o e => kk b o (notC b hb) (by
      rcases List.mem_cons.mp hb with q | q
      · rw [q]
        exact Nat.ne_of_lt hIl
      · rw [List.mem_singleton.mp q]
        exact Nat.ne_of_lt hyl2) e
    refine seg_call (c' := .compStart (gx2 elt iter x y px py p2 scope pos) 1 (.ref h2.objs.size) .none cenv) fun pp => ?_
    have inner : ∀ {kk : Result → Sem Fin} {ll : List Value} {cc : Code} (_ : ∀ (s₀ s' : Shared) (m : Str → Option Value), s'.heap.Ns cenv.locals m → Kept cenv.locals I href s'.heap → St (i + 1) s'.heap → ChgH s₀ s' → Seg (model prog w) A (EndG cenv.locals I href) (YldG cenv.locals I href) (remN lens k (i + 1)) s₀ cc (kk (.ok .next)) [] s') tk0,
        Seg (model prog w) A (EndG cenv.locals I href) (YldG cenv.locals I href) (its.size + remN lens k (i + 1)) s₀ (.compLoop (gx2 elt iter x y px py p2 scope pos) 1 (.ref h2.objs.size) .none cenv) ((model prog w).den (.compLoop (gx2 elt iter x y px py p2 scope pos) 1 (.ref h2.objs.size) .none cenv))
          [.ret kk none false ll cc pp []] { s with heap := h2.push { cls := .type "tuple_iterator", data := .fields #[.ref ra, .int 0 0] }, toks := tk0 } := fun {kk ll cc} hend tk0 =>
      seg_in (iter := iter) (px := px) (py := py) (p2 := p2) (pos := pos) (scope := scope) T hh (it1 := h2.objs.size) (ra := ra) (its := its) hint (Nat.ne_of_lt hrl) (Nat.ne_of_gt hCl) hrC hnew hOut hend
        its.size 0 s₀ _ _ (Nat.sub_zero _) (Nat.zero_le _) hit3 (ht2.push _) (hn2.push _) (fun b o h1 h2 e => kp3 b o (hkp2 b o h1 h2 e)) hst3 (hch.set _ _)
    have erem : remN lens (k + 1) i = its.size + remN lens k (i + 1) := by rw [hlen] <;> rfl
    rw [erem]
    show Seg _ A _ _ _ s₀ _ ((compStart (gx2 elt iter x y px py p2 scope pos) 1 (.ref h2.objs.size) .none cenv).onRaise (fun x => do noteFrame x cenv; standAt theWindowsPlace)) _ _
    unfold compStart
    rw [Sem.onRaise_eq_wrap]
    show Seg _ A _ _ _ s₀ _ ((ask >>= _).wrap _ _ _ _) _ _
    refine seg_bind_wrap (wpAny_askSetting ?_)
    split
    · exact seg_again rfl (inner (fun s₀ s' m' hn' hk' ho' hc' => seg_again rfl (ih (i + 1) s₀ s' m' (by omega) hlt ho' hn' hk' hc')) _)
    · refine seg_bind_wrap (wpAny_rule ?_)
      show Seg _ A _ _ _ s₀ _ ((standAt p2 >>= _).wrap _ _ _ _) _ _
      exact seg_bind_wrap (wpAny_standAt (seg_bind_wrap (wpAny_pyIter_tupleiter hit3 (seg_again rfl (inner (fun s₀ s' m' hn' hk' ho' hc' => seg_again rfl (ih (i + 1) s₀ s' m' (by omega) hlt ho' hn' hk' hc')) _)))))
end

section
variable {prog : Program} {w : World} {A : Around} {elt iter : Expr} {x y : Str} {px py p2 pos : Pos} {scope : Scope} {cenv : Env} {I : Addr} {href : Heap}
theorem seg_first (T : Two prog w cenv x y elt I href) (hh : A.handled = none) {yl : Addr} {n₀ : Nat} {P : Nat → Value → Prop} {St : Nat → Heap → Prop} (W : ∀ A' : Around, A'.handled = none → Walks prog w A' I [I, yl] [I] n₀ P St) (hCI : I ≠ cenv.locals) (hCy : yl ≠ cenv.locals)
    (hlive : ∀ i h, St i h → ∃ u, h.get? I = some u) (hyl : ∃ u, href.get? yl = some u) (lens : Nat → Nat)
    (hrow : ∀ i v, P i v → ∃ ra its, v = .ref ra ∧ its.size = lens i ∧ (∀ (j : Nat) (u : Value), its[j]? = some u → ∃ z t, u = .int z t ∧ 0 ≤ z) ∧ ra ≠ cenv.locals ∧ ra ≠ I ∧ href.IsTuple ra its)
    (s₀ s : Shared) (m : Str → Option Value) (hst : St 0 s.heap) (hn : s.heap.Ns cenv.locals m) (hkp : Kept cenv.locals I href s.heap) (hch : ChgH s₀ s) :
    Seg (model prog w) A (EndG cenv.locals I href) (YldG cenv.locals I href) (remN lens n₀ 0) s₀ (.compStart (gx2 elt iter x y px py p2 scope pos) 0 (.ref I) .none cenv) ((model prog w).den (.compStart (gx2 elt iter x y px py p2 scope pos) 0 (.ref I) .none cenv)) [] s := by
  have hh' : (A.over (.compStart (gx2 elt iter x y px py p2 scope pos) 0 (.ref I) .none cenv) []).handled = none := hh
  have loop := seg_out (iter := iter) (px := px) (py := py) (p2 := p2) (pos := pos) (scope := scope) T hh W hCI hCy hlive hyl lens hrow n₀ 0 s₀ s m (Nat.sub_zero _) (Nat.zero_le _) hst hn hkp hch
  show Seg _ A _ _ _ s₀ _ ((compStart (gx2 elt iter x y px py p2 scope pos) 0 (.ref I) .none cenv).onRaise (leaving cenv)) [] s
  unfold compStart
  rw [Sem.onRaise_eq_wrap]
  show Seg _ A _ _ _ s₀ _ ((ask >>= _).wrap _ _ _ _) [] s
  refine seg_bind_wrap (wpAny_askSetting ?_)
  split
  · exact seg_again rfl loop
  · refine seg_bind_wrap (wpAny_rule ?_)
    show Seg _ A _ _ _ s₀ _ ((standAt iter.pos >>= _).wrap _ _ _ _) [] s
    exact seg_bind_wrap (wpAny_standAt (seg_bind_wrap ((W _ hh').self 0 s _ _ hst (seg_again rfl loop))))
end
/-- how long the tuple is that a value stands for -/
def tupLen (h : Heap) (v : Option V) : Nat := match v with
  | some (.ref ra) => match h.get? ra with
    | some o => match o.data with
      | .seq its _ => its.size
      | _ => 0
    | none => 0
  | _ => 0
theorem tupLen_of {h : Heap} {ra : Addr} {its : Array Value} (ht : h.IsTuple ra its) : tupLen h (some (.ref ra)) = its.size := by
  obtain ⟨o, e, _, n, d⟩ := ht
  unfold tupLen
  simp only [e, d]
/-- the generator between two draws, n still to come -/
def GenAt2 (prog : Program) (w : World) (A : Around) (g : Nat) (C I : Addr) (href : Heap) (n : Nat) (s : Shared) : Prop :=
  Kept C I href s.heap ∧ ∃ gs, s.gens[g]? = some gs ∧ ∀ s'' : Shared, (∀ b o, s.heap.get? b = some o → s''.heap.get? b = some o) → gs.Goes (model prog w) A.in1 (EndG C I href) (YldG C I href) n (.send .none) s''
section
variable {prog : Program} {w : World} {A : Around} {R : Result → Shared → Prop} {E : Value → Shared → Prop}
theorem any_loop2 {a C I : Addr} {g : Nat} {href : Heap} (hh : A.handled = none) (hroom : A.depth < recursionLimit) (hg : href.IsGen a g) (hl : href.NoLimit) (haC : a ≠ C) (haI : a ≠ I) (hcC : cStatics ≠ C) (hcI : cStatics ≠ I) :
    ∀ (n : Nat) (s : Shared), GenAt2 prog w A.in1 g C I href n s → (∀ s' : Shared, Kept C I href s'.heap → GenOnlyQ g s.gens s'.gens → s'.os = s.os → R (.ok (.ret (.bool false))) s') → codeAny (model prog w) A (.builtin "any.loop" ⟨[.ref a], []⟩) R s := by
  have gen_of : ∀ h : Heap, Kept C I href h → h.IsGen a g := fun h k => by
    obtain ⟨o, nm, qn, ho, r⟩ := hg
    exact ⟨o, nm, qn, k a o haC haI ho, r⟩
  have lim_of : ∀ h : Heap, Kept C I href h → h.NoLimit := fun h k => by
    obtain ⟨mc, hns, hnn⟩ := hl
    exact ⟨mc, hns.at' fun o e => k _ o hcC hcI e, hnn⟩
  intro n
  induction n with
  | zero =>
    intro s hat hR
    obtain ⟨hk, gs, hgs, hgo⟩ := hat
    refine codeAny_builtin F.entry_any_loop ?_
    rw [Around.under_plainId F.plain_any_loop _]
    show wpAny _ A.in1 (pyNext (.ref a) >>= _) _ _ s
    refine wpAny_bind (wpAny_pyNext_genexpQ (P := fun n s₀ s₁ => n = 0 ∧ ChgH s₀ s₁ ∧ Kept C I href s₁.heap) hh (lim_of _ hk) hroom (gen_of _ hk) hgs (hgo _ fun _ _ e => e) (fun v s₁ gs' hb hv => ?_) (fun s₁ hp h' hk' => ?_))
    · exact (hv.2.2.2 s₁ fun _ _ e => e).elim
    · obtain ⟨_, ⟨h1, t1, rfl⟩, hk1⟩ := hp
      refine wpAny_bind (wpAny_rule (wpAny_pure ?_))
      exact hR _ (fun b o h1 h2 e => hk' b o (hk1 b o h1 h2 e)) (GenOnlyQ.of ((GenOnly.setGen s g .running).trans (GenOnly.setGen _ g .finished)) (setGen_self (gs := .running) (setGen_self hgs)) rfl) rfl
  | succ n ih =>
    intro s hat hR
    obtain ⟨hk, gs, hgs, hgo⟩ := hat
    refine codeAny_builtin F.entry_any_loop ?_
    rw [Around.under_plainId F.plain_any_loop _]
    show wpAny _ A.in1 (pyNext (.ref a) >>= _) _ _ s
    refine wpAny_bind (wpAny_pyNext_genexpQ (P := fun n s₀ s₁ => n = 0 ∧ ChgH s₀ s₁ ∧ Kept C I href s₁.heap) hh (lim_of _ hk) hroom (gen_of _ hk) hgs (hgo _ fun _ _ e => e) (fun v s₁ gs' hb hv => ?_) (fun s₁ hp h' hk' => ?_))
    · obtain ⟨rfl, ⟨h1, t1, rfl⟩, hk1, hkap⟩ := hv
      refine wpAny_bind (wpAny_holding (wpAny_truthy_bool ?_))
      refine wpAny_bind (wpAny_letGo ?_)
      simp only [Bool.false_eq_true, if_false]
      refine wpAny_pure ⟨plainId_quiet F.plain_any_loop _, ih _ ⟨hk1, gs', setGen_self (gs := .running) (setGen_self hgs), fun s'' hal => hkap s'' hal⟩ fun s' k' g' o' => ?_⟩
      exact hR s' k' ((GenOnlyQ.of ((GenOnly.setGen s g .running).trans (GenOnly.setGen _ g gs')) (setGen_self (gs := .running) (setGen_self hgs)) hb).trans g') o'
    · exact absurd hp.1 (Nat.succ_ne_zero n)
theorem call_any2 {a C I : Addr} {g n : Nat} {href : Heap} {s : Shared} {Q : Value → Shared → Prop} (hh : A.handled = none) (hroom : A.depth < recursionLimit) (hg : href.IsGen a g) (hl : href.NoLimit) (haC : a ≠ C) (haI : a ≠ I) (hcC : cStatics ≠ C) (hcI : cStatics ≠ I)
    (hat : GenAt2 prog w A.in1 g C I href n s) (hQ : ∀ s' : Shared, Kept C I href s'.heap → GenOnlyQ g s.gens s'.gens → s'.os = s.os → Q (.bool false) s') : wpAny (model prog w) A (call (.builtin "any") [.ref a]) Q E s := by
  refine call_function_tree F.kind_any F.plain_any F.entry_any (F.args_any1 _) ?_
  unfold Builtin.«any»
  refine wpAny_bind (m := oneArg "any" _) (wpAny_pure ?_)
  have gen_at : s.heap.IsGen a g := by
    obtain ⟨o, nm, qn, ho, r⟩ := hg
    exact ⟨o, nm, qn, hat.1 a o haC haI ho, r⟩
  refine wpAny_bind (wpAny_pyIter_gen gen_at ?_)
  exact wpAny_pure ⟨plainId_quiet F.plain_any_loop _, any_loop2 hh hroom hg hl haC haI hcC hcI n s hat fun s' k g' o => hQ s' k g' o⟩
end

theorem eval_gx2 {elt iter : Expr} {x y : Str} {px py p2 pos : Pos} {scope : Scope} (env : Env) (hco : scope.isCoroutine = false) :
    eval (gx2 elt iter x y px py p2 scope pos) env = (do
      let v ← eval iter env
      standAt iter.pos
      let v ← genFold iter env v
      let it ← holding [v] (pyIter v)
      enterFrame
      let cl ← closureFor scope env
      let code ← genexprCode env pos (env.qual ++ "<genexpr>") scope
      let bi ← builtinsFor env.globals env.builtins
      let cenv ← newFunctionEnv scope env.globals cl [(".0", it)] (env.qual ++ "<genexpr>.") none code none bi
      newGenerator (.compStart (gx2 elt iter x y px py p2 scope pos) 0 it .none cenv) "<genexpr>" (env.qual ++ "<genexpr>")) := by
  rw [arm_eval_GeneratorExp]
  simp only [hco, Bool.false_eq_true, if_false]
  cases iter <;> rfl

/-- the test of such a generator is False of each number that is not below nought -/
def TestF (prog : Program) (w : World) (scope : Scope) (y : Str) (elt : Expr) : Prop :=
  ∀ (cenv : Env) (A' : Around) (E' : Value → Shared → Prop) (z : Int) (t : Tok) (s₂ : Shared) (m₂ : Str → Option Value), cenv.scope = scope → A'.handled = none → 0 ≤ z → s₂.heap.Ns cenv.locals m₂ → m₂ y = some (.int z t) →
    wpAny (model prog w) A' (eval elt cenv) (fun u s₃ => u = .bool false ∧ Keeps s₂ s₃) E' s₂
/-- any(elt for x in e for y in x), the x tuples of numbers not below nought, no test true -/
def tAnyF2 (X : Cx) (P : Addr) (te : TE) : TE := fun σ H Q => te σ H fun v H1 => ∃ (yl : Addr) (xs : List V), v = .ref yl ∧ (SqL X.K H1 yl xs ∨ SqT X.K H1 yl xs) ∧ GxR.TabG H1 P ∧
  (∀ (i : Nat) (xv : V), xs[i]? = some xv → ∃ (ra : Addr) (zs : List Int), xv = .ref ra ∧ SqT X.K H1 ra (zs.map V.int) ∧ ∀ z ∈ zs, 0 ≤ z) ∧ ∀ H2, GxR.Tabbed P H1 H2 → Q (.bl false) H2
theorem pe_anyF2 {X : Cx} {c P : Addr} {elt iter : Expr} {x y : Str} {px py p2 p pos gpos : Pos} {scope : Scope} {te : TE} {k : Nat} (hr : Room k X.A) (hg : Gl X "any") (hm : X.mg "any" = none) (TB : GxR.TabB X.base X.mg c P) (hcode : X.env.code = .ref c)
    (S : GxR.GenS X.env scope x) (hy : scope.names.lookup y = some .local) (hi : PE X iter te) (hs : ∀ v, genFold iter X.env v = pure v) (hel : TestF X.prog X.w scope y elt) (hd : (x == ("__debug__" : Str)) = false := by decide)
    (he : starEach [gx2 elt iter x y px py p2 scope gpos] X.env = (false, eval (gx2 elt iter x y px py p2 scope gpos) X.env) :: starEach [] X.env := by rfl) :
    PE X (.Call (.Name "any" p) [gx2 elt iter x y px py p2 scope gpos] [] pos) (tAnyF2 X P te) := by
  refine ⟨fun pins s σ H Q I h => ?_⟩
  refine wpAny_Call_Name_kw (ld_blt I hg hm boot_any ?_)
  refine PyProof.Rows.callWith_builtin1 ?_ he (by rfl)
  rw [he]
  show wpAny _ _ (spliced ((false, eval (gx2 elt iter x y px py p2 scope gpos) X.env) :: backTo pos (starEach [] X.env))) _ _ s
  refine Calls.spliced_cons ?_
  rw [eval_gx2 _ S.co]
  refine wpAny_bind (thn (hi.run pins s σ H _ I h) fun xv s1 ⟨v, H1, I1, r1, q1⟩ => ?_)
  obtain ⟨yl, xs, rfl, hq, ⟨ps, hP, ht⟩, hrow, q⟩ := q1
  obtain rfl : xv = Value.ref yl := r1
  refine wpAny_bind (wpAny_standAt ?_)
  refine wpAny_bind (wpAny_of_eq (hs _) ?_)
  obtain ⟨o, its, St, rv, hlt, hiter, W, hst, hfr, hlive⟩ := seq_iter I1 hq
  refine wpAny_bind (wpAny_holding (hiter _ _ _ ?_))
  have hPs : s1.heap.get? P = some { cls := .none, data := .fields ps } := I1.hok P _ hP
  have hPlt : P < s1.heap.objs.size := Heap.lt_size hPs
  have seqP : ∀ {a : Addr} {zs : List V}, SqL X.K H1 a zs ∨ SqT X.K H1 a zs → a ≠ P := fun {a zs} hq z => by
    rcases hq with hq | hq
    · obtain ⟨_, _, pl, _⟩ := I1.list hq
      obtain ⟨u, e, hc, _⟩ := pl.isList
      rw [z, hPs] at e
      cases e
      cases hc
    · obtain ⟨_, _, pl, _⟩ := I1.tuple hq
      obtain ⟨u, e, hc, _⟩ := (show s1.heap.IsTuple a _ from pl)
      rw [z, hPs] at e
      cases e
      cases hc
  have sz2 : (s1.heap.push o).objs.size = s1.heap.objs.size + 1 := Heap.size_push ..
  -- the code object
  have front := gen_code (t2 := s1.toks) (h2 := s1.heap.push o) (scope := scope) (gpos := gpos) (K := fun code bi s4 => wpAny (model X.prog X.w) X.A (do
      let cenv ← newFunctionEnv scope X.env.globals (cloFrom X.env.cells scope.names []) [(".0", .ref s1.heap.objs.size)] (X.env.qual ++ "<genexpr>.") none code none bi
      newGenerator (.compStart (gx2 elt iter x y px py p2 scope gpos) 0 (.ref s1.heap.objs.size) .none cenv) "<genexpr>" (X.env.qual ++ "<genexpr>"))
        (fun v s5 => wpAny (model X.prog X.w) X.A (spliced (backTo pos (starEach [] X.env))) (fun vs s6 => wpAny (model X.prog X.w) X.A (call (.builtin "any") (v :: vs)) (EP X pins σ Q) X.xe s6) X.xe s5) X.xe s4) I1 TB hcode hP ht (fun b u e => Heap.get?_push_of_some _ e) fun code h3 tk more hx hsz h3P h3t lim => ?_
  · refine wpAny_bind (wpAny_enterFrame front.1 hr.depth ?_)
    rw [closure_ok S.free]
    refine wpAny_bind (wpAny_pure ?_)
    refine wpAny_bind (thn front.2 fun code s3 h3 => ?_)
    exact wpAny_bind h3
  · have hz3 : s1.heap.objs.size < h3.objs.size := Nat.lt_of_lt_of_le (Nat.lt_of_lt_of_eq (Nat.lt_succ_self _) sz2.symm) hsz
    have keep3 : ∀ b u, b ≠ P → s1.heap.get? b = some u → h3.get? b = some u := fun b u hb e => hx b u hb (Heap.get?_push_of_some _ e)
    have hit3 : h3.get? s1.heap.objs.size = some o := hx _ _ (Nat.ne_of_gt hPlt) (Heap.get?_push_size _ hfr)
    have hbinds : ∀ z ∈ ([((".0" : Str), Value.ref s1.heap.objs.size)] : List (Str × Value)), scope.names.lookup z.1 = some NameKind.local := fun z hz => by
      rw [List.mem_singleton.mp hz]
      exact S.dot
    refine wpAny_bind (wpAny_newFunctionEnv S.cell hbinds (fun h' hn' hs' => ?_) S.kind)
    simp only [newGenerator, newFields]
    refine wpAny_bind (wpAny_newGen (wpAny_bind (wpAny_mkText (wpAny_bind (wpAny_mkText (wpAny_newObj_type ?_ (by size_fits)))))))
    have key : ∀ (nm qn : Value) (tkz : Nat), wpAny (model X.prog X.w) X.A (spliced (backTo pos (starEach [] X.env))) (fun vs s6 => wpAny (model X.prog X.w) X.A (call (.builtin "any") (.ref h'.objs.size :: vs)) (EP X pins σ Q) X.xe s6) X.xe
        { s1 with heap := h'.push { cls := .type "generator", data := .fields #[.int s1.gens.size 0, nm, qn] }, gens := s1.gens.push (.fresh (.compStart (gx2 elt iter x y px py p2 scope gpos) 0 (.ref s1.heap.objs.size) .none (newEnv scope h3.objs.size X.env.globals (cloFrom X.env.cells scope.names []) (X.env.qual ++ "<genexpr>.") none code none builtinsNs))), toks := tkz } := by
      intro nm qn tkz
      generalize hgo : ({ cls := .type "generator", data := .fields #[.int s1.gens.size 0, nm, qn] } : Obj) = go
      have hsz' : h'.objs.size = h3.objs.size + 1 := by rw [hs'.1, Heap.size_push]
      have keep' : ∀ b u, h3.get? b = some u → h'.get? b = some u := fun b u e => hs'.extBut b u (Nat.ne_of_lt (Heap.lt_size e)) (Heap.get?_push_of_some _ e)
      have keep5 : ∀ b u, h3.get? b = some u → (h'.push go).get? b = some u := fun b u e => Heap.get?_push_of_some _ (keep' b u e)
      have hgen : (h'.push go).IsGen h'.objs.size s1.gens.size := by
        rw [← hgo]
        exact ⟨_, _, _, Heap.get?_push_size _ rfl, rfl, rfl, rfl⟩
      have hI3 : s1.heap.objs.size < h'.objs.size := by
        rw [hsz']
        exact Nat.lt_succ_of_lt hz3
      have hcl : cStatics < s1.heap.objs.size := let ⟨_, hns, _⟩ := I1.nolimit; hns.lt
      have keep15 : ∀ b u, b ≠ P → s1.heap.get? b = some u → (h'.push go).get? b = some u := fun b u hb e => keep5 b u (keep3 b u hb e)
      have T : Two X.prog X.w (newEnv scope h3.objs.size X.env.globals (cloFrom X.env.cells scope.names []) (X.env.qual ++ "<genexpr>.") none code none builtinsNs) x y elt s1.heap.objs.size (h'.push go) :=
        ⟨S.loc, hy, S.kind, S.co, hd, fun A' E' z t s₂ m₂ hA hz hn hm _ => hel _ A' E' z t s₂ m₂ rfl hA hz hn hm⟩
      have hrows : ∀ (i : Nat) (v : Value), its.toArray[i]? = some v → ∃ ra ws, v = .ref ra ∧ ws.size = tupLen (h'.push go) xs[i]? ∧ (∀ (j : Nat) (u : Value), ws[j]? = some u → ∃ z t, u = .int z t ∧ 0 ≤ z) ∧ ra ≠ h3.objs.size ∧ ra ≠ s1.heap.objs.size ∧ (h'.push go).IsTuple ra ws := fun i v hv => by
        have hv' : its[i]? = some v := by simpa using hv
        have hi2 : i < xs.length := by
          rw [rv.length]
          exact (List.getElem?_eq_some_iff.mp hv').1
        have hx := List.getElem?_eq_getElem hi2
        obtain ⟨u, hu, ru⟩ := rv.get hx
        rw [hv'] at hu
        cases hu
        obtain ⟨ra, zs, ex, hT, hpos⟩ := hrow i _ hx
        rw [ex] at ru
        obtain rfl : v = Value.ref ra := ru
        obtain ⟨ws, rw', pl, _⟩ := I1.tuple hT
        have hraP := seqP (.inr hT)
        have hTu : s1.heap.IsTuple ra ws.toArray := pl
        have hrl : ra < s1.heap.objs.size := let ⟨_, e, _⟩ := hTu; Heap.lt_size e
        have hT5 : (h'.push go).IsTuple ra ws.toArray := hTu.at fun u e => keep15 ra u hraP e
        refine ⟨ra, ws.toArray, rfl, ?_, fun j u hu => ?_, Nat.ne_of_lt (Nat.lt_trans hrl hz3), Nat.ne_of_lt hrl, hT5⟩
        · rw [hx, ex, tupLen_of hT5]
        · have hu' : ws[j]? = some u := by simpa using hu
          have hj : j < (zs.map V.int).length := by
            rw [rw'.length]
            exact (List.getElem?_eq_some_iff.mp hu').1
          have hjz : j < zs.length := by simpa using hj
          obtain ⟨u2, hu2, ru2⟩ := rw'.get (i := j) (x := .int zs[j]) (by rw [List.getElem?_map, List.getElem?_eq_getElem hjz] <;> rfl)
          rw [hu'] at hu2
          cases hu2
          obtain ⟨t, e⟩ := ru2
          exact ⟨_, t, e, hpos _ (List.getElem_mem hjz)⟩
      refine Calls.spliced_nil ?_
      refine call_any2 (C := h3.objs.size) (I := s1.heap.objs.size) (g := s1.gens.size) (n := remN (fun i => tupLen (h'.push go) xs[i]?) its.toArray.size 0) (href := h'.push go) hr.hd hr.depth hgen (lim.keeps keep5) (by rw [hsz']; exact Nat.succ_ne_self _) (Nat.ne_of_gt hI3)
        (Nat.ne_of_lt (Nat.lt_trans hcl hz3)) (Nat.ne_of_lt hcl) ⟨fun _ _ _ _ e => e, _, Array.getElem?_push_size .., fun s'' hal => ⟨rfl, ?_⟩⟩ fun s' hk hgq hos => ?_
      · refine seg_first (A := X.A.in1.in1) (iter := iter) (px := px) (py := py) (p2 := p2) (pos := gpos) (scope := scope) (cenv := newEnv scope h3.objs.size X.env.globals (cloFrom X.env.cells scope.names []) (X.env.qual ++ "<genexpr>.") none code none builtinsNs) (yl := yl) T hr.hd W (Nat.ne_of_lt hz3) (Nat.ne_of_lt (Nat.lt_trans hlt hz3)) hlive ?_ _ hrows s'' s'' _
          (hst _ (hal _ _ (keep5 _ _ hit3)) fun u e => hal _ _ (keep15 yl u (seqP hq) e)) ((hn'.push go).at' fun u e => hal _ _ e) (fun b u _ _ e => hal b u e) (ChgH.refl _)
        have : ∃ u, s1.heap.get? yl = some u := by
          rcases hq with hq | hq
          · obtain ⟨_, _, pl, _⟩ := I1.list hq
            obtain ⟨u, e, _⟩ := pl.isList
            exact ⟨u, e⟩
          · obtain ⟨_, _, pl, _⟩ := I1.tuple hq
            obtain ⟨u, e, _⟩ := (show s1.heap.IsTuple yl _ from pl)
            exact ⟨u, e⟩
        obtain ⟨u, e⟩ := this
        exact ⟨u, keep15 yl u (seqP hq) e⟩
      · have ne1 : ∀ b u, s1.heap.get? b = some u → b ≠ h3.objs.size ∧ b ≠ s1.heap.objs.size := fun b u e => ⟨Nat.ne_of_lt (Nat.lt_trans (Heap.lt_size e) hz3), Nat.ne_of_lt (Heap.lt_size e)⟩
        have hbare : AllBare s'.gens := AllBare.moved (I1.bare.push (g := .fresh _) rfl) hgq
        obtain ⟨H2, hT, J⟩ := gen_done (s' := s') I1 hP (fun b u hb e => hk b u (ne1 b u e).1 (ne1 b u e).2 (keep15 b u hb e)) (hk P _ (ne1 P _ hPs).1 (ne1 P _ hPs).2 (keep5 P _ h3P)) h3t hbare hos
        exact ⟨.bl _, H2, J, rfl, q H2 hT⟩
    exact key _ _ _
end G3

set_option Elab.async false
set_option linter.all false
set_option maxRecDepth 100000
set_option maxHeartbeats 2000000
/-! enumerate(t), t a tuple: made, walked by a for; sum(..) of a generator over it. -/
namespace G3
open PySem PySem.Spec PyProof.Rows L2
open AutoSeq1 (wpAny_loadPart')
/-- what enumerate makes of a tuple -/
theorem meets_enum_tup (l : Addr) (items : Array Value) (n : Nat) (dct : Option Addr) (sl : Array (Option Value)) :
    Meets (Builtin.«enumerate.__new__» ⟨[.type "enumerate", .ref l], []⟩) (fun _ R s => s.heap.get? l = some { cls := .type "tuple", dict := dct, data := .seq items n, slots := sl } ∧
      R (.ok (.ret (.ref (s.heap.push { cls := .type "tuple_iterator", data := .fields #[.ref l, .int 0 0] }).objs.size)))
        { s with heap := (s.heap.push { cls := .type "tuple_iterator", data := .fields #[.ref l, .int 0 0] }).push { cls := .type "enumerate", data := .fields #[.none, .bool false, .ref s.heap.objs.size, rawInt 0, .none, .none] } }) :=
  .of_wp fun prog w A R s h => by
    obtain ⟨hp, g, d, tk, os⟩ := s
    obtain ⟨hl, h⟩ := h
    have hsub := sub_enumerate
    have hT : Heap.IsTuple (Shared.heap ⟨hp, g, d, tk, os⟩) l items := ⟨_, hl, rfl, n, rfl⟩
    wp_walk using wpAny_loadPart' hl
    refine wpAny_stack_any fun st => wpAny_pure ?_
    split
    · rename_i c _ _ _ _ _
      cases (c == Value.type "enumerate")
      · wp_walk using wpAny_loadPart' hl, wpAny_pyIter_tuple hT
        exact ⟨_, rfl, h⟩
      · wp_walk using wpAny_loadPart' hl, wpAny_pyIter_tuple hT
        exact ⟨_, rfl, h⟩
    · wp_walk using wpAny_loadPart' hl, wpAny_pyIter_tuple hT
      exact ⟨_, rfl, h⟩
section
variable {prog : Program} {w : World} {A : Around} {E : Value → Shared → Prop} {s : Shared}
theorem call_enum_tup {l : Addr} {items : Array Value} {Q : Value → Shared → Prop} (hL : s.heap.IsTuple l items)
    (h : ∀ h' : Heap, IsEnum h' (s.heap.objs.size + 1) s.heap.objs.size 0 .none → h'.IsTupleIter s.heap.objs.size l 0 → h'.objs.size = s.heap.objs.size + 2 → (∀ b o, s.heap.get? b = some o → h'.get? b = some o) → Q (.ref (s.heap.objs.size + 1)) { s with heap := h' }) :
    wpAny (model prog w) A (call (.type "enumerate") [.ref l]) Q E s := by
  obtain ⟨⟨c, dct, dt, sl⟩, hl, hc, n, hd⟩ := hL
  have hc' : c = .type "tuple" := hc
  have hd' : dt = .seq items n := hd
  subst hc'
  subst hd'
  generalize ho : ({ cls := .type "tuple_iterator", data := .fields #[.ref l, .int 0 0] } : Obj) = o
  generalize he : ({ cls := .type "enumerate", data := .fields #[.none, .bool false, .ref s.heap.objs.size, rawInt 0, .none, .none] } : Obj) = eo
  have z1 : (s.heap.push o).objs.size = s.heap.objs.size + 1 := Heap.size_push ..
  have fin : Q (.ref (s.heap.push o).objs.size) { s with heap := (s.heap.push o).push eo } := by
    rw [z1]
    have g1 : ((s.heap.push o).push eo).get? (s.heap.objs.size + 1) = some eo := by
      have := Heap.get?_push_size (s.heap.push o) (o := eo) (by rw [← he] <;> rfl)
      rw [z1] at this
      exact this
    refine h _ (by rw [← he] at g1 ⊢; exact g1) ⟨o, Heap.get?_push_of_some _ (Heap.get?_push_size _ (by rw [← ho] <;> rfl)), by rw [← ho], by rw [← ho] <;> rfl⟩ (by rw [Heap.size_push, z1]) fun b u e => Heap.get?_push_of_some _ (Heap.get?_push_of_some _ e)
  refine callType_new F.called_enumerate (by decide) (F.typeCall_enumerate_1 _) (F.newCall_enumerate_1 _) (fun obj => F.args_object_init_2 obj _) F.entry_enumerate_new (meets_enum_tup l items n dct sl) ⟨hl, ?_⟩
  subst ho
  subst he
  have z2 : ((s.heap.push { cls := .type "tuple_iterator", data := .fields #[.ref l, .int 0 0] }).push { cls := .type "enumerate", data := .fields #[.none, .bool false, .ref s.heap.objs.size, rawInt 0, .none, .none] }).get? (s.heap.push { cls := .type "tuple_iterator", data := .fields #[.ref l, .int 0 0] }).objs.size =
    some { cls := .type "enumerate", data := .fields #[.none, .bool false, .ref s.heap.objs.size, rawInt 0, .none, .none] } := Heap.get?_push_size _ rfl
  exact ⟨⟨_, z2, rfl⟩, fin⟩
end

/-- the tuple at a, each item in a new pair with its place -/
def Itet (K : PySem.W.Frag) (a : Addr) : It :=
  ⟨fun i H => ∃ (xs : List V) (x : V), SqT K H a xs ∧ xs[i]? = some x, fun i H v H' => ∃ T x, v = .ref T ∧ H T = none ∧ H' = upd H T (.tup [.int (i : Nat), x]) ∧ ∀ xs, SqT K H a xs → xs[i]? = some x, fun i H => ∃ xs : List V, SqT K H a xs ∧ xs.length = i⟩
theorem turn_enumT {P : Program} {w : World} {K : PySem.W.Frag} {elts : List Expr} {kk : Nat} {tpos : Pos} (a e it : Addr) :
    L2.Turn P w K (.Tuple elts kk tpos) (Itet K a) [e, it] e (fun i h => (∃ old, IsEnum h e it ((i : Nat) : Int) old) ∧ h.IsTupleIter it a i ∧ e ≠ it ∧ e ≠ a ∧ a ≠ it) where
  mem := List.mem_cons_self
  obj := fun i h st b hb => by
    obtain ⟨⟨old, he⟩, ⟨o, ho, hc, hd⟩, _⟩ := st
    rcases List.mem_cons.mp hb with z | z
    · rw [z]
      exact ⟨_, he, fun v q => nomatch q⟩
    · rw [List.mem_singleton.mp z]
      exact ⟨o, ho, fun v q => by rw [hd] at q; cases q⟩
  keep := fun i h h' st k => by
    obtain ⟨⟨old, he⟩, hi, r⟩ := st
    exact ⟨⟨old, k e List.mem_cons_self _ he⟩, hi.at fun o q => k it (by simp) o q, r⟩
  item := by
    intro X hP hw hK hc i pins s σ H E I hf st hg
    subst hP hw hK
    obtain ⟨⟨old, he⟩, hit, n1, n2, n3⟩ := st
    obtain ⟨xs, x, hq, hx⟩ := hg
    obtain ⟨its, rv, p, hz⟩ := I.tuple hq
    obtain ⟨u, hu, ru⟩ := rv.get hx
    have hT : s.heap.IsTuple a its.toArray := p
    have W := WalksT.enumFrom (prog := X.prog) (w := X.w) (A := X.A) 0 (Draws.tuple (A := X.A.in1) (I.ok.hd hc) it a n3 its.toArray) e n1 (by simp [n1, n2]) (by simp)
    have hi : i < its.toArray.size := by
      have := (List.getElem?_eq_some_iff.mp hu).1
      simpa using this
    have e0 : (0 : Int) + (i : Int) = (i : Int) := Int.zero_add _
    have hlt : ∀ b ∈ [e, it], b < s.heap.objs.size := fun b hb => by
      rcases List.mem_cons.mp hb with z | z
      · rw [z]
        exact Heap.lt_size he
      · rw [List.mem_singleton.mp z]
        obtain ⟨_, q, _⟩ := hit
        exact Heap.lt_size q
    refine W.item i s _ _ hi ⟨⟨old, by rw [e0]; exact he⟩, hit, hT⟩ fun T vals h' tk hP hsz hTu hmid hk => ?_
    obtain ⟨t, y, hy, rfl⟩ := hP
    have ey : y = u := by
      have : its[i]? = some y := by simpa using hy
      rw [hu] at this
      exact (Option.some.inj this).symm
    subst ey
    have hap := W.apart i T h' hmid
    refine ⟨_, rfl, W.go elts kk tpos i T { s with heap := h', toks := tk } _ _ hmid fun h'' hst hk2 => ?_⟩
    have hT2 : h''.IsTuple T #[.int (0 + (i : Int)) t, y] := hTu.at fun o q => hk2 T o hap q
    have new : ObjOk X.prog X.w (upd H T (.tup [.int (i : Nat), x])) h'' T (.tup [.int (i : Nat), x]) := ⟨by show 2 ≤ sizeLine; decide, [.int (0 + (i : Int)) t, y], .cons ⟨t, by rw [e0]⟩ (.cons ru .nil), hT2⟩
    have I1 : Inv X pins σ (upd H T (.tup [.int (i : Nat), x])) { s with heap := h'', toks := tk } := I.turnedNew (ch := [e, it]) (fun b ob hb q => hk2 b ob hb (hk b ob hb q)) hf hsz new
    obtain ⟨⟨old', he'⟩, hit', _⟩ := hst
    refine ⟨.ref T, _, I1, rfl, ⟨T, x, rfl, I.hok.fresh hsz, rfl, fun ys hy => by rw [I.tuple_inj hy hq]; exact hx⟩, ⟨⟨old', ?_⟩, hit', n1, n2, n3⟩, fun b hb => ?_⟩
    · have e1 : (0 : Int) + ((i + 1 : Nat) : Int) = ((i + 1 : Nat) : Int) := Int.zero_add _
      rw [e1] at he'
      exact he'
    · rw [upd_ne (Nat.ne_of_lt (Nat.lt_of_lt_of_le (hlt b hb) hsz))]
      exact (hf b hb).1
  done := by
    intro X hP hw hK hc i pins s σ H E I hf st hg
    subst hP hw hK
    obtain ⟨⟨old, he⟩, hit, n1, n2, n3⟩ := st
    obtain ⟨xs, hq, hx⟩ := hg
    obtain ⟨its, rv, p, hz⟩ := I.tuple hq
    have hT : s.heap.IsTuple a its.toArray := p
    have hl := rv.length
    obtain ⟨f0, f1, f2, f3, f4, f5⟩ := hf it (by simp)
    have hn : its.toArray.size = i := by
      rw [List.size_toArray]
      omega
    have D := Draws.tuple (prog := X.prog) (w := X.w) (A := X.A.in1) (I.ok.hd hc) it a n3 its.toArray
    rw [hn] at D
    exact wpAny_pyNext_enum_endD D he ⟨hit, hT⟩ fun h' hx => ⟨rfl, I.turned (t' := s.toks) (fun b o hb q => hx b o hb q) f0 f1 f3 f4 f5⟩
  self := fun A i s Q E st h => let ⟨⟨_, he⟩, _⟩ := st; wpAny_pyIter_enum he h

def iEnumT (K : PySem.W.Frag) (ta : TA) : TI := fun σ H R => ta σ H fun vs H1 => ∃ a xs, vs = [.ref a] ∧ SqT K H1 a xs ∧ R (Itet K a) H1
theorem pi_enumT {X : Cx} {e : Expr} {ta : TA} {p pos tpos : Pos} {elts : List Expr} {kk : Nat} (hg : Gl X "enumerate") (hm : X.mg "enumerate" = none) (ha : PA X [e] ta) (hs : starEach [e] X.env = [(false, eval e X.env)] := by rfl) :
    PI X (.Tuple elts kk tpos) (.Call (.Name "enumerate" p) [e] [] pos) (iEnumT X.K ta) := by
  refine ⟨fun pins s σ H R I h => ?_⟩
  refine Call_ (ld_blt I hg hm boot_enumerate (PyProof.Rows.callWith_type1 (thn (ha.run pos pins s σ H _ I h) fun us s1 ⟨vs, H1, I1, r1, q1⟩ => ?_) hs rfl))
  obtain ⟨a, xs, ex, hq, q⟩ := q1
  subst ex
  cases r1 with
  | cons r rr =>
    cases rr
    cases r
    obtain ⟨its, rv, pl, hz⟩ := I1.tuple hq
    have hT : s1.heap.IsTuple a its.toArray := pl
    have hlt : a < s1.heap.objs.size := let ⟨_, e, _⟩ := hT; Heap.lt_size e
    refine call_enum_tup hT fun h' he hit hsz hk => wpAny_pyIter_enum he ?_
    have I2 : Inv X pins σ H1 { s1 with heap := h' } := I1.kept (t' := s1.toks) hk
    refine ⟨s1.heap.objs.size + 1, [s1.heap.objs.size + 1, s1.heap.objs.size], _, _, H1, rfl, I2, turn_enumT a (s1.heap.objs.size + 1) s1.heap.objs.size,
      ⟨⟨.none, he⟩, hit, Nat.succ_ne_self _, Nat.ne_of_gt (Nat.lt_succ_of_lt hlt), Nat.ne_of_lt hlt⟩, fun b hb => ?_, q⟩
    have hle : s1.heap.objs.size ≤ b := by
      rcases List.mem_cons.mp hb with z | z
      · rw [z]
        exact Nat.le_succ _
      · rw [List.mem_singleton.mp z]
        exact Nat.le_refl _
    exact I1.fpOk hle (I1.hok.fresh hle)
/-- for i, x in enumerate(t): the invariant by the turn -/
theorem for_enumT {K : PySem.W.Frag} {a : Addr} {xs : List V} {g : TG} {tb : TS} {D : Ends} {σ : L2.St} {H : Hp} (Pv : Nat → L2.St → Hp → Prop) (h0 : Pv 0 σ H) (hl : ∀ i σ H, i ≤ xs.length → Pv i σ H → SqT K H a xs)
    (hs : ∀ i x (T : Addr) σ H, xs[i]? = some x → Pv i σ H → H T = none → g (.ref T) σ (upd H T (.tup [.int (i : Nat), x])) fun σ2 H2 => tb { D with nx := Pv (i + 1), ct := Pv (i + 1), bk := D.nx } σ2 H2) (hd : ∀ σ H, Pv xs.length σ H → D.nx σ H) :
    ∃ W : Nat → Nat → L2.St → Hp → Prop, (∃ m, W 0 m σ H) ∧ ∀ i m σ H, W i m σ H →
      ((Itet K a).stop i H ∧ D.nx σ H) ∨ ((Itet K a).go i H ∧ ∃ N : L2.St → Hp → Prop, (∀ σ' H', N σ' H' → ∃ m', m' < m ∧ W (i + 1) m' σ' H') ∧ ∀ x H', (Itet K a).yld i H x H' → g x σ H' fun σ2 H2 => tb { D with nx := N, ct := N, bk := D.nx } σ2 H2) := by
  refine ⟨fun i m σ H => m = xs.length - i ∧ i ≤ xs.length ∧ Pv i σ H, ⟨xs.length, by simp, Nat.zero_le _, h0⟩, ?_⟩
  rintro i m σ H ⟨rfl, hi, p⟩
  have q := hl i σ H hi p
  by_cases hlt : i < xs.length
  · refine .inr ⟨⟨xs, xs[i], q, List.getElem?_eq_getElem hlt⟩, Pv (i + 1), fun σ' H' p' => ⟨xs.length - (i + 1), by omega, rfl, hlt, p'⟩, fun v H' y => ?_⟩
    obtain ⟨T, x, rfl, hT, rfl, hx⟩ := y
    exact hs i x T σ H (hx xs q) p hT
  · have e : i = xs.length := by omega
    subst e
    exact .inl ⟨⟨xs, q, rfl⟩, hd σ H p⟩
end G3

set_option Elab.async false
set_option linter.all false
set_option maxRecDepth 100000
set_option maxHeartbeats 2000000
/-! sum(elt for i, x in enumerate(t) if test), t a tuple, the elements whole numbers. -/
namespace G3
open PySem PySem.Spec PyProof.Rows L2
theorem preSum_list (val : Nat → Int) : ∀ l : List Nat, preSum (fun j => val (l.getD j 0)) l.length = (l.map val).sum := by
  intro l
  have key : ∀ k, k ≤ l.length → preSum (fun j => val (l.getD j 0)) k = ((l.take k).map val).sum := by
    intro k
    induction k with
    | zero => intro _; rfl
    | succ k ih =>
      intro hk
      show preSum (fun j => val (l.getD j 0)) k + val (l.getD k 0) = _
      rw [ih (by omega), List.take_succ, List.getElem?_eq_getElem (by omega), List.map_append, List.sum_append, List.getD_eq_getElem?_getD, List.getElem?_eq_getElem (by omega)]
      simp
  have := key l.length (Nat.le_refl _)
  rw [List.take_length] at this
  exact this
/-- the element of a generator over enumerate(t), and its test -/
def EltS (X : Cx) (P : Addr) (scope : Scope) (xa xb : Str) (tst elt : Expr) (σ : L2.St) (H1 : Hp) (xs : List V) (pz : Nat → Bool) (val : Nat → Int) : Prop :=
  ∀ (pins : List (Addr × Obj)) (s1 : Shared) (cenv : Env) (s2 : Shared) (A' : Around) (E' : Value → Shared → Prop) (i : Nat) (xv : V) (v : Value) (t : Tok) (m2 : Str → Option Value), GEnv X pins σ H1 s1 P scope cenv s2 → A'.handled = none → xs[i]? = some xv → RelV xv v →
    s2.heap.Ns cenv.locals m2 → m2 xa = some (.int (i : Nat) t) → m2 xb = some v →
    wpAny (model X.prog X.w) A' (isTrue tst cenv (eval tst cenv)) (fun ok s3 => ok = pz i ∧ Keeps s2 s3) E' s2 ∧
    (pz i = true → wpAny (model X.prog X.w) A' (eval elt cenv) (fun y s3 => (∃ u, y = .int (val i) u) ∧ Keeps s2 s3) E' s2)
def tSumE (X : Cx) (P : Addr) (scope : Scope) (xa xb : Str) (tst elt : Expr) (ta : TA) : TE := fun σ H Q => ta σ H fun vs H1 => ∃ (a : Addr) (xs : List V) (pz : Nat → Bool) (val : Nat → Int), vs = [.ref a] ∧ SqT X.K H1 a xs ∧ GxR.TabG H1 P ∧
  EltS X P scope xa xb tst elt σ H1 xs pz val ∧ ∀ H2, GxR.Tabbed P H1 H2 → Q (.int (((List.range xs.length).filter pz).map val).sum) H2
abbrev gxe (elt tst e : Expr) (xa xb : Str) (pa pb pt pe pos3 : Pos) (kt : Nat) (scope : Scope) (pos : Pos) : Expr := .GeneratorExp elt [⟨.Tuple [.Name xa pa, .Name xb pb] kt pt, .Call (.Name "enumerate" pe) [e] [] pos3, [tst], 0⟩] scope pos
theorem passing_all (pz : Nat → Bool) (n : Nat) : passing pz n 0 = (List.range n).filter pz := by
  unfold passing
  rw [List.drop_zero]
theorem pe_sumE {X : Cx} {c P : Addr} {elt tst e : Expr} {xa xb : Str} {pa pb pt pe pos3 p pos gpos : Pos} {kt : Nat} {scope : Scope} {ta : TA} {k : Nat} (hr : Room k X.A) (hg : Gl X "sum") (hm : X.mg "sum" = none) (hge : Gl X "enumerate") (hme : X.mg "enumerate" = none)
    (TB : GxR.TabB X.base X.mg c P) (hcode : X.env.code = .ref c) (S : GxR.GenS X.env scope xa) (hxb : scope.names.lookup xb = some .local) (hab : xa ≠ xb) (ha : PA X [e] ta) (hs3 : starEach [e] X.env = [(false, eval e X.env)] := by rfl)
    (he : starEach [gxe elt tst e xa xb pa pb pt pe pos3 kt scope gpos] X.env = (false, eval (gxe elt tst e xa xb pa pb pt pe pos3 kt scope gpos) X.env) :: starEach [] X.env := by rfl) (hs : ∀ v, genFold (.Call (.Name "enumerate" pe) [e] [] pos3) X.env v = pure v := by intro _; rfl) :
    PE X (.Call (.Name "sum" p) [gxe elt tst e xa xb pa pb pt pe pos3 kt scope gpos] [] pos) (tSumE X P scope xa xb tst elt ta) := by
  refine ⟨fun pins s σ H Q I h => ?_⟩
  refine wpAny_Call_Name_kw (ld_blt I hg hm boot_sum ?_)
  refine PyProof.Rows.callWith_builtin1 ?_ he (by rfl)
  rw [he]
  show wpAny _ _ (spliced ((false, eval (gxe elt tst e xa xb pa pb pt pe pos3 kt scope gpos) X.env) :: backTo pos (starEach [] X.env))) _ _ s
  refine Calls.spliced_cons ?_
  refine wpAny_GeneratorExp_walksQT hr.hd S.co (closure_ok S.free) S.cell S.dot S.loc hxb hab S.kind (by have := hr.dp; omega) ?_ hs
  refine Call_ (ld_blt I hge hme boot_enumerate (PyProof.Rows.callWith_type1 (thn (ha.run pos3 pins s σ H _ I h) fun us s1 ⟨vs, H1, I1, r1, q1⟩ => ?_) hs3 rfl))
  obtain ⟨yl, xs, pz, val, rfl, hq, ⟨ps, hP, ht⟩, hel, q⟩ := q1
  cases r1 with
  | cons r rr =>
    cases rr
    cases r
    obtain ⟨its, rv, pl, hz⟩ := I1.tuple hq
    have hT : s1.heap.IsTuple yl its.toArray := pl
    have hlt : yl < s1.heap.objs.size := let ⟨_, e, _⟩ := hT; Heap.lt_size e
    refine call_enum_tup hT fun h2 hen hit hsz2 hk2 => wpAny_pyIter_enum hen ?_
    have hPs : s1.heap.get? P = some { cls := .none, data := .fields ps } := I1.hok P _ hP
    have hPlt : P < s1.heap.objs.size := Heap.lt_size hPs
    have hylP : yl ≠ P := fun z => by
      obtain ⟨u, e, hc, _⟩ := hT
      rw [z, hPs] at e
      cases e
      cases hc
    refine gen_code (t2 := s1.toks) (h2 := h2) I1 TB hcode hP ht hk2 fun code h3 tk more hx hsz h3P h3t lim => ?_
    have hz3 : s1.heap.objs.size + 2 ≤ h3.objs.size := by
      rw [← hsz2]
      exact hsz
    have keep3 : ∀ b u, b ≠ P → s1.heap.get? b = some u → h3.get? b = some u := fun b u hb e => hx b u hb (hk2 b u e)
    have nP1 : s1.heap.objs.size + 1 ≠ P := Nat.ne_of_gt (Nat.lt_succ_of_lt hPlt)
    have n13 : yl ≠ s1.heap.objs.size := Nat.ne_of_lt hlt
    have n12 : s1.heap.objs.size + 1 ∉ [s1.heap.objs.size, yl] := by
      intro z
      rcases List.mem_cons.mp z with z | z
      · exact Nat.succ_ne_self _ z
      · exact Nat.ne_of_gt (Nat.lt_succ_of_lt hlt) (List.mem_singleton.mp z)
    refine ⟨s1.heap.objs.size + 1, _, _, its.toArray.size, _, _, _, pz, (fun i y => ∃ u, y = .int (val i) u), rfl, fun A' hA => (WalksT.enumFrom (prog := X.prog) (w := X.w) (A := A') 0 (Draws.tuple (A := A'.in1) hA s1.heap.objs.size yl n13 its.toArray) (s1.heap.objs.size + 1) (Nat.succ_ne_self _) n12 (by simp)).toU,
      fun i vals hv => ?_, ⟨⟨.none, ?_⟩, ?_, ?_⟩, ?_, lim, ?_, ?_, ?_⟩
    · obtain ⟨t, x, _, e⟩ := hv
      exact ⟨_, _, e⟩
    · exact hx _ _ nP1 hen
    · obtain ⟨o, ho, r⟩ := hit
      exact ⟨o, hx _ _ (Nat.ne_of_gt hPlt) ho, r⟩
    · obtain ⟨u, e, r⟩ := hT
      exact ⟨u, keep3 _ _ hylP e, r⟩
    · intro b hb
      have : b ≤ s1.heap.objs.size + 1 := by
        rcases List.mem_cons.mp hb with z | z
        · exact Nat.le_of_eq z
        · rcases List.mem_cons.mp z with z | z
          · rw [z]
            exact Nat.le_succ _
          · rw [List.mem_singleton.mp z]
            exact Nat.le_of_lt (Nat.lt_succ_of_lt hlt)
      exact Nat.lt_of_le_of_lt this hz3
    · intro z
      have hcl : cStatics < s1.heap.objs.size := let ⟨_, hns, _⟩ := I1.nolimit; hns.lt
      rcases List.mem_cons.mp z with z | z
      · rw [z] at hcl
        exact absurd (Nat.lt_trans (Nat.lt_succ_self _) hcl) (Nat.lt_irrefl _)
      · rw [List.mem_singleton.mp z] at hcl
        exact Nat.lt_irrefl _ hcl
    · intro href hhref
      have genv : ∀ s₂ : Shared, (∀ b ∈ List.range h3.objs.size, b ∉ [s1.heap.objs.size + 1, s1.heap.objs.size] → ∀ u, href.get? b = some u → s₂.heap.get? b = some u) →
          GEnv X pins σ H1 s1 P scope (genEnv scope (cloFrom X.env.cells scope.names []) h3.objs.size code builtinsNs X.env) s₂ := fun s₂ hk => by
        refine ⟨I1, rfl, rfl, I1.ok.glob, rfl, ⟨ps, hP⟩, fun b u hb e => ?_⟩
        have e3 := keep3 b u hb e
        have hbl := Heap.lt_size e
        refine hk b (List.mem_range.mpr (Heap.lt_size e3)) (fun z => ?_) u (hhref b u e3)
        rcases List.mem_cons.mp z with z | z
        · rw [z] at hbl
          exact absurd (Nat.lt_trans (Nat.lt_succ_self _) hbl) (Nat.lt_irrefl _)
        · rw [List.mem_singleton.mp z] at hbl
          exact Nat.lt_irrefl _ hbl
      have item : ∀ (i : Nat) (va vb : Value), (∃ t x, its.toArray[i]? = some x ∧ #[va, vb] = #[.int (0 + (i : Int)) t, x]) → ∃ t xv, va = .int (i : Nat) t ∧ xs[i]? = some xv ∧ RelV xv vb := fun i va vb hv => by
        obtain ⟨t, x, hx, e⟩ := hv
        have e2 : va = .int (0 + (i : Int)) t ∧ vb = x := by
          have := congrArg Array.toList e
          simpa using this
        have hv' : its[i]? = some x := by simpa using hx
        have hi2 : i < xs.length := by
          rw [rv.length]
          exact (List.getElem?_eq_some_iff.mp hv').1
        obtain ⟨u, hu, ru⟩ := rv.get (List.getElem?_eq_getElem hi2)
        rw [hv'] at hu
        cases hu
        refine ⟨t, _, ?_, List.getElem?_eq_getElem hi2, by rw [e2.2]; exact ru⟩
        rw [e2.1, Int.zero_add]
      refine ⟨fun A' E' i va vb s₂ m₂ hA hPv hn hma hmb hk => ?_, fun A' E' i va vb s₂ m₂ hA hPv hp hn hma hmb hk => ?_⟩
      · obtain ⟨t, xv, rfl, hx, rx⟩ := item i va vb hPv
        exact wpAny_tests_one (hel pins s1 _ s₂ A' E' i xv vb t m₂ (genv s₂ hk) hA hx rx hn hma hmb).1
      · obtain ⟨t, xv, rfl, hx, rx⟩ := item i va vb hPv
        exact (hel pins s1 _ s₂ A' E' i xv vb t m₂ (genv s₂ hk) hA hx rx hn hma hmb).2 hp
    · intro g h5 tk5 gs hgb hag hsz5 hk5 W5 hat
      have W6 := W5.in4_1
      refine Calls.spliced_nil ?_
      refine call_sum_walkAnyS (W6.self 0 _ _ _ hat ⟨g, _, _, _, _, _, _, fun j => val ((passing pz its.toArray.size 0).getD j 0), rfl, W6, hat, fun b hb => ?_, fun j y hy => ?_, fun s' t' hmv => ?_⟩)
      · show b < h5.objs.size
        rw [hsz5]
        rcases List.mem_cons.mp hb with z | z
        · rw [z]
          exact Nat.lt_succ_self _
        · rcases List.mem_cons.mp z with z | z
          · rw [z]
            exact Nat.lt_succ_of_lt hag
          · exact Nat.lt_succ_of_lt (Nat.lt_trans (List.mem_range.mp z) hag)
      · obtain ⟨i, hi, u, rfl⟩ := hy
        refine ⟨u, ?_⟩
        show Value.int (val i) u = Value.int (val ((passing pz its.toArray.size 0).getD j 0)) u
        rw [List.getD_eq_getElem?_getD, hi]
        rfl
      · have nwr : ∀ b u, s1.heap.get? b = some u → b ∉ h3.objs.size :: [s1.heap.objs.size + 1, s1.heap.objs.size] := fun b u e hb => by
          have hl := Heap.lt_size e
          rcases List.mem_cons.mp hb with z | z
          · rw [z] at hl
            exact absurd (Nat.lt_of_lt_of_le hl (Nat.le_trans (Nat.le_add_right _ 2) hz3)) (Nat.lt_irrefl _)
          · rcases List.mem_cons.mp z with z | z
            · rw [z] at hl
              exact absurd (Nat.lt_trans (Nat.lt_succ_self _) hl) (Nat.lt_irrefl _)
            · rw [List.mem_singleton.mp z] at hl
              exact Nat.lt_irrefl _ hl
        obtain ⟨H2, hT2, J⟩ := gen_done I1 hP (fun b u hb e => hmv.heap b u (nwr b u e) (hk5 b u (keep3 b u hb e))) (hmv.heap P _ (nwr P _ hPs) (hk5 P _ h3P)) h3t (AllBare.movedS (I1.bare.push hgb) hmv) hmv.os
        refine ⟨.int _, H2, J, ⟨t', rfl⟩, ?_⟩
        rw [preSum_list, passing_all, List.size_toArray, ← rv.length]
        exact q H2 hT2
end G3

set_option Elab.async false
set_option linter.all false
set_option maxRecDepth 100000
set_option maxHeartbeats 2000000
/-! min(js, key=lambda one: (best[one], one)), js a list of places, best a captured list. -/
namespace G3
open PySem PySem.Spec PyProof.Rows L2
/-- the place that the walk keeps is never above another one -/
theorem argBest_least {α : Type} (key : Nat → α) (lt : α → α → Bool) (asym : ∀ a b, lt a b = true → lt b a = false) (tr : ∀ a b c, lt b a = false → lt c b = false → lt c a = false) :
    ∀ k, argBest (fun i j => lt (key i) (key j)) k ≤ k ∧ ∀ i, i ≤ k → lt (key i) (key (argBest (fun i j => lt (key i) (key j)) k)) = false
  | 0 => ⟨Nat.le_refl _, fun i hi => by
      have : i = 0 := by omega
      subst this
      show lt (key 0) (key 0) = false
      cases h : lt (key 0) (key 0) with
      | false => rfl
      | true => rw [asym _ _ h] at h; cases h⟩
  | k + 1 => by
    obtain ⟨h1, h2⟩ := argBest_least key lt asym tr k
    show (if lt (key (k + 1)) (key (argBest (fun i j => lt (key i) (key j)) k)) = true then k + 1 else argBest (fun i j => lt (key i) (key j)) k) ≤ k + 1 ∧ ∀ i, i ≤ k + 1 → lt (key i) (key (if lt (key (k + 1)) (key (argBest (fun i j => lt (key i) (key j)) k)) = true then k + 1 else argBest (fun i j => lt (key i) (key j)) k)) = false
    split
    · rename_i h
      refine ⟨Nat.le_refl _, fun i hi => ?_⟩
      rcases Nat.lt_or_eq_of_le hi with z | z
      · exact tr _ _ _ (asym _ _ h) (h2 i (by omega))
      · subst z
        cases e : lt (key (k + 1)) (key (k + 1)) with
        | false => rfl
        | true => rw [asym _ _ e] at e; cases e
    · rename_i h
      refine ⟨by omega, fun i hi => ?_⟩
      rcases Nat.lt_or_eq_of_le hi with z | z
      · exact h2 i (by omega)
      · subst z
        cases e : lt (key (k + 1)) (key (argBest (fun i j => lt (key i) (key j)) k)) with
        | false => rfl
        | true => exact absurd e h
def lex2 (p q : Int × Int) : Bool := HT.lexLt [p.1, p.2] [q.1, q.2]
theorem lex2_iff (p q : Int × Int) : lex2 p q = true ↔ p.1 < q.1 ∨ (p.1 = q.1 ∧ p.2 < q.2) := by
  unfold lex2
  rw [HT.lexLt_cons, HT.lexLt_cons, HT.lexLt_nil_nil]
  by_cases h : p.1 = q.1
  · rw [if_pos h]
    by_cases h2 : p.2 = q.2
    · rw [if_pos h2, h, h2]
      simp
    · rw [if_neg h2, h]
      simp
  · rw [if_neg h]
    simp [h]
theorem lex2_false (p q : Int × Int) : lex2 p q = false ↔ ¬ (p.1 < q.1 ∨ (p.1 = q.1 ∧ p.2 < q.2)) := by
  rw [← lex2_iff]
  cases lex2 p q <;> simp
/-- the lambda's names: one parameter, captured ones, globals -/
structure LamP (sc scope : Scope) (x : Str) : Prop where
  kind : scope.kind = .function
  co : scope.isCoroutine = false
  gen : scope.isGenerator = false
  cell : ∀ y ∈ scope.names, y.2 ≠ .cell
  own : scope.names.lookup x = some .local
  free : ∀ y ∈ scope.names, y.2 = .free → sc.names.lookup y.1 = some .cell ∨ sc.names.lookup y.1 = some .free
theorem LamP.has {X : Cx} {scope : Scope} {x : Str} (L : LamP X.env.scope scope x) (ok : X.Ok) : ∀ y ∈ scope.names, y.2 = .free → ∃ c, X.env.cells.lookup y.1 = some c := fun y hy e => by
  rcases L.free y hy e with k | k
  · exact ok.has _ (.inl k)
  · exact ok.has _ (.inr k)
/-- the lambda's body -/
abbrev lamB (y x : Str) (p1 p2 p3 p4 p5 : Pos) : Expr := .Tuple [.Subscript (.Name y p1) (.Name x p2) p3, .Name x p4] 0 p5
theorem eval_lamB {X : Cx} {pins : List (Addr × Obj)} {σ : L2.St} {H1 : Hp} {s1 s2 : Shared} {P : Addr} {scope : Scope} {cenv : Env} {y x : Str} {p1 p2 p3 p4 p5 : Pos} {A : Around} {E : Value → Shared → Prop} {Q : Value → Shared → Prop} {j : Nat} {ba : Addr} {bl : List V} {m2 : Str → Option Value} {k : Nat} {t : Tok} {b : Int}
    (G : GEnv X pins σ H1 s1 P scope cenv s2) (hk : scope.kind = .function) (hl : scope.names.lookup y = some .free) (hx : scope.names.lookup x = some .local) (hN : X.N[j]? = some y) (hv : σ[j]? = some (some (.ref ba))) (hy : X.env.scope.names.lookup y = some .cell)
    (hb : SqL X.K H1 ba bl) (hn : s2.heap.Ns cenv.locals m2) (hm : m2 x = some (.int (k : Int) t)) (hk2 : bl[k]? = some (.int b))
    (hd : (y == ("__debug__" : Str)) = false) (hcd : (y == ("__classdict__" : Str)) = false) (hdx : (x == ("__debug__" : Str)) = false)
    (h : ∀ u, Q (.ref s2.heap.objs.size) { s2 with heap := s2.heap.push { cls := .type "tuple", data := .seq #[.int b u, .int (k : Int) t] } }) :
    wpAny (model X.prog X.w) A (eval (lamB y x p1 p2 p3 p4 p5) cenv) Q E s2 := by
  obtain ⟨its, rv, hlist, hz⟩ := G.list hb
  obtain ⟨w, hw, rw'⟩ := rv.get hk2
  obtain ⟨u, rfl⟩ := rw'
  have hkl : k < bl.length := (List.getElem?_eq_some_iff.mp hk2).1
  have hn63 := line63
  refine wpAny_Tuple (wpAny_items_cons ?_)
  refine wpAny_Subscript_Name (T := "list") (id := "list.__getitem__") PySem.F.slot_list_getitem.lookup ?_
  refine G.free hk hl hN hv hy (fun u0 r0 => ?_) hd hcd
  obtain rfl : u0 = Value.ref ba := r0
  refine G.own hk hx hn hm ⟨hlist.typeIs, ?_⟩ hdx
  refine wpAny_getItem_list hlist (Int.natCast_nonneg k) (by omega) (x := .int b u) (by simpa using hw) ?_
  refine wpAny_items_cons (G.own hk hx hn hm (wpAny_items_nil ⟨show 2 ≤ sizeLine by decide, h u⟩) hdx)
/-- the lambda is made; all but its maker's table is kept -/
theorem lam_make3 {X : Cx} {pins : List (Addr × Obj)} {σ : L2.St} {H : Hp} {s : Shared} {c P : Addr} {params : Arguments} {body : Expr} {scope : Scope} {pos : Pos} {E : Value → Shared → Prop} {Q : Value → Shared → Prop} (I : Inv X pins σ H s) (TB : LamX.TabB X.base X.mg c P) (hcode : X.env.code = .ref c)
    (hT : LamX.TabS H P (X.env.qual ++ "<lambda>")) (hdef : defaultsOf params X.env = ([], [])) (hfree : ∀ y ∈ scope.names, y.2 = .free → ∃ c, X.env.cells.lookup y.1 = some c)
    (h : ∀ (f c' : Addr) (pm ctv : Value) (H1 : Hp) (s' : Shared), Inv X pins σ H1 s' → (∀ b o, b ≠ P → H b = some o → H1 b = some o) → LamX.TabS H1 P (X.env.qual ++ "<lambda>") →
      s'.heap.get? f = some (PySem.W.kla_obj "<lambda>" (X.env.qual ++ "<lambda>") params body scope (cloFrom X.env.cells scope.names []) pm c' ctv) → H1 c' = some (LamX.CodeO c' (X.env.qual ++ "<lambda>")) → Q (.ref f) s') :
    wpAny (model X.prog X.w) X.A (eval (.Lambda params body scope pos) X.env) Q E s := by
  obtain ⟨tab, atP, trip, codes⟩ := hT
  have standsP : s.heap.get? P = some { cls := .none, data := .fields tab } := I.hok P _ atP
  have names : s.heap.BuiltinsAt X.mg P := TB.bm.keeps I.bk
  have globs := I.mod.glob.keeps I.bk
  refine PySem.W.kla_eval hdef ?_
  cases found : codeAmong pos tab.toList with
  | some cv =>
    obtain ⟨c', rfl, hco⟩ := codes pos cv found
    refine PySem.W.kla_makeFunctionHit (mg := X.mg) (c := c) (P := P) (ps := tab) (closure_ok hfree) I.ok.glob globs hcode (TB.code.keeps I.bk) standsP trip found names fun ctv h' tk hx _ => ?_
    exact h _ _ _ ctv H _ (I.kept fun b o e => Heap.get?_push_of_some _ (hx b o e)) (fun _ _ _ e => e) ⟨tab, atP, trip, codes⟩ (Heap.get?_push_size _ rfl) hco
  | none =>
    refine PySem.W.kla_makeFunction (mg := X.mg) (c := c) (P := P) (ps := tab) (closure_ok hfree) I.ok.glob globs hcode (TB.code.keeps I.bk) standsP trip found TB.gP names fun c' ctv h' tk hx hge hlt hrec htb => ?_
    obtain ⟨c2, oc, vs, t, e2, hoc, hd, hv⟩ := hrec
    cases e2
    have fresh : H c' = none := I.hok.fresh hge
    have nPc : P ≠ c' := ne_of_none atP fresh
    have J := LamX.inv_table (t' := tk) (more := #[rawInt pos.line, rawInt pos.col, .ref c']) (h' := h'.push (PySem.W.kla_obj "<lambda>" (X.env.qual ++ "<lambda>") params body scope (cloFrom X.env.cells scope.names []) ((X.mg "__name__").getD .none) c' ctv)) I atP
      (fun b o hb e => Heap.get?_push_of_some _ (hx b o hb e)) (Heap.get?_push_of_some _ htb) hge ⟨oc, vs, t, Heap.get?_push_of_some _ hoc, hd, hv⟩
    have kp : ∀ b o, b ≠ P → H b = some o → upd (upd H P (.tbl (tab ++ #[rawInt pos.line, rawInt pos.col, .ref c']))) c' (LamX.CodeO c' (X.env.qual ++ "<lambda>")) b = some o := fun b o hb e => by
      rw [upd_ne (ne_of_none e fresh), upd_ne hb]
      exact e
    refine h _ _ _ ctv _ _ J kp ⟨_, by rw [upd_ne nPc, upd_same], by simpa using PySem.TriplesOk_snoc _ _ _ _ trip, fun p' cv hcv => ?_⟩ (Heap.get?_push_size _ rfl) upd_same
    have hcv' : codeAmong p' (tab.toList ++ [rawInt pos.line, rawInt pos.col, .ref c']) = some cv := by simpa using hcv
    rcases LamX.among_app _ trip hcv' with z | z
    · obtain ⟨c0, e1, e2⟩ := codes p' cv z
      refine ⟨c0, e1, kp _ _ (fun q => ?_) e2⟩
      rw [q, atP] at e2
      exact LamX.codeO_ne _ (Option.some.inj e2).symm
    · exact ⟨c', z, upd_same⟩
theorem SqL.kp {K : PySem.W.Frag} {H H' : Hp} {a P : Addr} {xs : List V} {ps : Array Value} (h : SqL K H a xs) (hP : H P = some (.tbl ps)) (e : ∀ b o, b ≠ P → H b = some o → H' b = some o) : SqL K H' a xs := by
  rcases h with (h | ⟨o, h⟩) | h
  · exact .inl (.inl (e _ _ (fun z => by rw [z, hP] at h; cases h) h))
  · exact .inl (.inr ⟨o, e _ _ (fun z => by rw [z, hP] at h; cases h) h⟩)
  · exact .inr h
/-- min(e, key=lambda x: (y[x], x)) -/
def tMinB (X : Cx) (P : Addr) (q : Str) (j : Nat) (ta : TA) : TE := fun σ H Q => ta σ H fun vs H1 => ∃ (yl ba : Addr) (js : List Nat) (b : Nat → Int) (bl : List V), vs = [.ref yl] ∧ SqL X.K H1 yl (js.map fun i => V.int (i : Nat)) ∧ js ≠ [] ∧ σ[j]? = some (some (.ref ba)) ∧
  SqL X.K H1 ba bl ∧ (∀ i ∈ js, bl[i]? = some (.int (b i))) ∧ LamX.TabS H1 P q ∧ ∀ H2 i, (∀ b o, b ≠ P → H1 b = some o → H2 b = some o) → LamX.TabS H2 P q → i ∈ js → (∀ i' ∈ js, b i ≤ b i') → Q (.int (i : Nat)) H2
theorem pe_minB {X : Cx} {c P : Addr} {e : Expr} {y x : Str} {params : Arguments} {scope : Scope} {p1 p2 p3 p4 p5 lpos kpos p pos : Pos} {ta : TA} {k j : Nat} (hr : Room k X.A) (hg : Gl X "min") (hm : X.mg "min" = none)
    (TB : LamX.TabB X.base X.mg c P) (hcode : X.env.code = .ref c) (L : LamP X.env.scope scope x) (hl : scope.names.lookup y = some .free) (hN : X.N[j]? = some y)
    (hy : X.env.scope.names.lookup y = some .cell) (hdef : defaultsOf params X.env = ([], [])) (hbind : ∀ (q : Str) (body : Expr) (cl : List (Str × Addr)) (pm cv ctv v : Value), bindArgs (PySem.W.kla_fn "<lambda>" q params body scope cl pm cv ctv) ⟨[v], []⟩ = pure [(x, v)])
    (ha : PA X [e] ta)
    (hd : (y == ("__debug__" : Str)) = false := by decide) (hcd : (y == ("__classdict__" : Str)) = false := by decide) (hdx : (x == ("__debug__" : Str)) = false := by decide)
    (he : backTo pos (starEach [e] X.env) = (false, eval e X.env) :: backTo pos (starEach [] X.env) := by rfl) :
    PE X (.Call (.Name "min" p) [e] [⟨some "key", .Lambda params (lamB y x p1 p2 p3 p4 p5) scope lpos, kpos⟩] pos) (tMinB X P (X.env.qual ++ "<lambda>") j ta) := by
  refine ⟨fun pins s σ H Q I h => ?_⟩
  refine wpAny_Call_Name_kw (ld_blt I hg hm boot_min ?_)
  refine PyProof.Rows.callWith_kw (thn (ha.run pos pins s σ H _ I h) fun us s1 ⟨vs, H1, I1, r1, q1⟩ => ?_) he (by rw [he]; rfl) (by rfl) (by rfl)
  obtain ⟨yl, ba, js, b, bl, rfl, hq, hne, hσ, hb, hbl, hT, q⟩ := q1
  obtain rfl := Vals.ref1 r1
  show wpAny _ _ (evalAll ((do let v ← eval (.Lambda params (lamB y x p1 p2 p3 p4 p5) scope lpos) X.env; standAt pos; pure v) :: [])) _ _ s1
  refine wpAny_evalAll_cons (wpAny_bind (lam_make3 I1 TB hcode hT hdef (L.has I1.ok) fun f c' pm ctv H2 s2 I2 eN T2 hf hco => wpAny_bind (wpAny_standAt (wpAny_pure ?_))))
  refine wpAny_evalAll_nil ?_
  show wpAny _ _ (call (.builtin "min") [.ref yl] [(Str.ofString "key", .ref f)]) _ _ s2
  obtain ⟨⟨oc, vsc, tq, hoc, hdc, hvc⟩, _, _⟩ := I2.hok c' _ hco
  obtain ⟨psP, hPs, _, _⟩ := id T2
  obtain ⟨ps1, hP1, _, _⟩ := id hT
  obtain ⟨o, its, St, rv, hlt, hiter, W, hst, hfr2, hal⟩ := seq_iter I2 (.inl (SqL.kp hq hP1 eN))
  have hb2 := SqL.kp hb hP1 eN
  refine call_min_walkK (hiter _ _ _ ?_)
  have szO : (s2.heap.push o).objs.size = s2.heap.objs.size + 1 := Heap.size_push ..
  have hlen : its.length = js.length := by
    have := rv.length
    simpa using this.symm
  have ext0 : ∀ b u, s2.heap.get? b = some u → (s2.heap.push o).get? b = some u := fun b u e => Heap.get?_push_of_some _ e
  have nwr : ∀ b u, s2.heap.get? b = some u → b ∉ [(s2.heap.push o).objs.size, s2.heap.objs.size] := fun b u e hb => by
    have hl := Heap.lt_size e
    rcases List.mem_cons.mp hb with z | z
    · rw [z, szO] at hl
      exact absurd (Nat.lt_trans (Nat.lt_succ_self _) hl) (Nat.lt_irrefl _)
    · rw [List.mem_singleton.mp z] at hl
      exact Nat.lt_irrefl _ hl
  refine ⟨s2.heap.objs.size, [s2.heap.objs.size, yl], [s2.heap.objs.size], _, its.toArray.size, _, _,
    (fun s' => (∀ b u, s2.heap.get? b = some u → s'.heap.get? b = some u) ∧ s'.gens = s2.gens ∧ s'.drawn = s2.drawn ∧ s'.os = s2.os),
    (fun i kv s' => ∃ (a : Addr) (xi : Nat) (t u : Tok), kv = .ref a ∧ js[i]? = some xi ∧ s'.heap.IsTuple a #[.int (b xi) t, .int (xi : Int) u] ∧ a ∉ [(s2.heap.push o).objs.size, s2.heap.objs.size]),
    (fun i j => lex2 (b (js.getD i 0), (js.getD i 0 : Int)) (b (js.getD j 0), (js.getD j 0 : Int))), rfl, (W X.A.in1 hr.hd).toS, ?_, ?_, ?_, ?_, ?_, ?_⟩
  · exact hst _ (Heap.get?_push_size _ hfr2) (ext0 _)
  · intro b hb
    show b < (s2.heap.push o).objs.size
    rw [szO]
    rcases List.mem_cons.mp hb with z | z
    · rw [z]
      exact Nat.lt_succ_self _
    · rw [List.mem_singleton.mp z]
      exact Nat.lt_succ_of_lt hlt
  · rw [List.size_toArray, hlen]
    exact List.length_pos_iff.mpr hne
  · refine ⟨fun s3 s4 hJ hm => ?_, fun i kv s3 s4 hV hm => ?_, fun i v s3 oS Q' E' hi hP hJ hst' hS hQ => ?_, fun i j ki kj s3 Q' E' hJ hV1 hV2 hQ => ?_⟩
    · refine ⟨fun b u e => hm.heap b u (nwr b u e) (hJ.1 b u e), ?_, hm.drawn.trans hJ.2.2.1, hm.os.trans hJ.2.2.2⟩
      exact (show s4.gens = s3.gens from hm.gens).trans hJ.2.1
    · obtain ⟨a, xi, t, u, rfl, hx, ⟨oa, ha1, ha2⟩, hna⟩ := hV
      exact ⟨a, xi, t, u, rfl, hx, ⟨oa, hm.heap a oa hna ha1, ha2⟩, hna⟩
    · obtain ⟨jx, hjx⟩ : ∃ jx, js[i]? = some jx := ⟨_, List.getElem?_eq_getElem (by rw [← hlen, ← List.size_toArray]; exact hi)⟩
      obtain ⟨t, rfl⟩ : ∃ t, v = .int (jx : Int) t := by
        have hv : its[i]? = some v := by simpa using hP
        obtain ⟨u, hu1, ru⟩ := rv.get (i := i) (x := .int (jx : Nat)) (by rw [List.getElem?_map, hjx]; rfl)
        rw [hv] at hu1
        cases hu1
        exact ru
      obtain ⟨eK, eG, eD, eO⟩ := hJ
      refine wpAny_call (PySem.W.kla_callFunE (by have := hr.dp; show X.A.depth < _; omega) (eK _ _ hf) rfl L.co L.gen rfl ⟨c', oc, vsc, tq, rfl, eK _ _ hoc, hdc, hvc⟩ ?_)
      rw [hbind]
      refine wpAny_pure (wpAny_newFunctionEnv L.cell (fun z hz => by rw [List.mem_singleton.mp hz]; exact L.own) (fun h₁ hns hsb => ⟨(I2.nolimit.keeps eK).fresh _ hsb, ?_⟩) L.kind)
      have kp : ∀ b o, s3.heap.get? b = some o → h₁.get? b = some o := fun b o e => hsb.extBut b o (Nat.ne_of_lt (Heap.lt_size e)) (Heap.get?_push_of_some _ e)
      have szh : s3.heap.objs.size + 1 ≤ h₁.objs.size := hns.lt
      have szi : s2.heap.objs.size < s3.heap.objs.size := by
        obtain ⟨u, hu⟩ := hal _ _ hst'
        exact Heap.lt_size hu
      have szS : (s2.heap.push o).objs.size < s3.heap.objs.size := Heap.lt_size hS
      refine PySem.W.kla_codeExpr ?_
      refine eval_lamB (X := X) (pins := pins) (σ := σ) (H1 := H2) (s1 := s2) (P := P) (scope := scope) (j := j) (ba := ba) (bl := bl) (b := b jx) (t := t)
        (m2 := fun y => ([(x, .int (jx : Int) t)] : List (Str × Value)).reverse.lookup y) ⟨I2, rfl, rfl, rfl, rfl, ⟨psP, hPs⟩, fun d u _ e => kp _ _ (eK d u e)⟩ L.kind hl L.own hN hσ hy hb2 hns (by simp) (hbl _ (List.mem_of_getElem? hjx)) hd hcd hdx fun u => ?_
      refine hQ _ _ ⟨fun d u e => Heap.get?_push_of_some _ (kp _ _ (eK d u e)), eG, eD, eO⟩ ?_ ?_ ?_ ?_
      · refine (W X.A.in1 hr.hd).toS.frame _ s3 _ _ hst' (Nat.le_add_right _ _) fun d _ u e => Heap.get?_push_of_some _ (kp d u e)
      · exact Heap.get?_push_of_some _ (kp _ _ hS)
      · refine ⟨h₁.objs.size, jx, u, t, rfl, hjx, ⟨_, Heap.get?_push_size _ rfl, rfl, _, rfl⟩, fun z => ?_⟩
        rcases List.mem_cons.mp z with z | z
        · rw [z] at szh
          exact absurd (Nat.lt_of_lt_of_le szS (Nat.le_trans (Nat.le_succ _) szh)) (Nat.lt_irrefl _)
        · rw [List.mem_singleton.mp z] at szh
          exact absurd (Nat.lt_of_lt_of_le szi (Nat.le_trans (Nat.le_succ _) szh)) (Nat.lt_irrefl _)
      · intro i' k' hV
        obtain ⟨a, xi, t', u', rfl, hx, ⟨oa, ha1, ha2⟩, hna⟩ := hV
        exact ⟨a, xi, t', u', rfl, hx, ⟨oa, Heap.get?_push_of_some _ (kp _ _ ha1), ha2⟩, hna⟩
    · obtain ⟨a1, x1, t1, u1, rfl, hx1, hp1, _⟩ := hV1
      obtain ⟨a2, x2, t2, u2, rfl, hx2, hp2, _⟩ := hV2
      have hun : X.A.in1.units < cLine := by
        have := hr.un
        rw [Around.in1_units]
        omega
      have e1 : js.getD i 0 = x1 := by rw [List.getD_eq_getElem?_getD, hx1]; rfl
      have e2 : js.getD j 0 = x2 := by rw [List.getD_eq_getElem?_getD, hx2]; rfl
      refine HT.lt_tupInts (A := X.A.in1) (show IsTup s3.heap a1 _ from hp1) (show IsTup s3.heap a2 _ from hp2) (ns := [b x1, (x1 : Int)]) (ms := [b x2, (x2 : Int)]) (.cons _ _ (.cons _ _ .nil)) (.cons _ _ (.cons _ _ .nil)) hun ?_
      have hQ' : Q' (.bool (lex2 (b (js.getD i 0), (js.getD i 0 : Int)) (b (js.getD j 0), (js.getD j 0 : Int)))) s3 := hQ
      rw [e1, e2] at hQ'
      exact hQ'
  · exact ⟨ext0, rfl, rfl, rfl⟩
  · intro v s3 hP hJ
    obtain ⟨e1, e2, e3, e4⟩ := hJ
    obtain ⟨m1, m2⟩ := argBest_least (fun i => (b (js.getD i 0), (js.getD i 0 : Int))) lex2
      (fun p q h => by rw [lex2_iff] at h; rw [lex2_false]; omega) (fun p q r h1 h2 => by rw [lex2_false] at h1 h2 ⊢; omega) (its.toArray.size - 1)
    generalize hN0 : argBest (fun i j => lex2 (b (js.getD i 0), (js.getD i 0 : Int)) (b (js.getD j 0), (js.getD j 0 : Int))) (its.toArray.size - 1) = N0 at m1 m2 hP
    have hjl : 0 < js.length := List.length_pos_iff.mpr hne
    have hsz : its.toArray.size = js.length := by rw [List.size_toArray, hlen]
    have hN1 : N0 < js.length := by omega
    have hv : its[N0]? = some v := by simpa using hP
    have hget : js.getD N0 0 = js[N0] := by rw [List.getD_eq_getElem?_getD, List.getElem?_eq_getElem hN1]; rfl
    obtain ⟨u, hu1, ru⟩ := rv.get (i := N0) (x := .int (js[N0] : Nat)) (by rw [List.getElem?_map, List.getElem?_eq_getElem hN1]; rfl)
    rw [hv] at hu1
    cases hu1
    have J := I2.kept (h' := s3.heap) (t' := s3.toks) e1
    have es : ({ s2 with heap := s3.heap, toks := s3.toks } : Shared) = s3 := by
      obtain ⟨hp, g, d, tk, os⟩ := s3
      obtain ⟨hp2, g2, d2, tk2, os2⟩ := s2
      simp only at e2 e3 e4
      subst e2 e3 e4
      rfl
    rw [es] at J
    refine ⟨_, H2, J, ru, q H2 _ eN T2 (List.getElem_mem hN1) fun i' hi' => ?_⟩
    obtain ⟨k', hk', rfl⟩ := List.getElem_of_mem hi'
    have := m2 k' (by omega)
    rw [lex2_false] at this
    have hget' : js.getD k' 0 = js[k'] := by rw [List.getD_eq_getElem?_getD, List.getElem?_eq_getElem hk']; rfl
    simp only [hget, hget'] at this
    omega
end G3

set_option Elab.async false
set_option linter.all false
set_option maxRecDepth 100000
set_option maxHeartbeats 2000000
/-! max of a list of tuples of ints, max(.., default=d) of a list of ints, sum of a tuple of ints. -/
namespace G3
open PySem PySem.Spec PyProof.Rows L2
theorem lexAt_gt : ∀ (ns ms : List Int), ns.length = ms.length → ∀ k i, i + k = ns.length →
    Ob.lexAt (fun j => decide (ns.getD j 0 = ms.getD j 0)) (fun j => decide (ms.getD j 0 < ns.getD j 0)) false i k = HT.lexLt (ms.drop i) (ns.drop i) := by
  intro ns ms hl k
  induction k with
  | zero =>
    intro i hi
    rw [Ob.lexAt_zero, List.drop_of_length_le (by omega), List.drop_of_length_le (by omega), HT.lexLt_nil_nil]
  | succ k ih =>
    intro i hi
    have h1 : i < ns.length := by omega
    have h2 : i < ms.length := by omega
    have g1 : ns.getD i 0 = ns[i] := by rw [List.getD_eq_getElem?_getD, List.getElem?_eq_getElem h1]; rfl
    have g2 : ms.getD i 0 = ms[i] := by rw [List.getD_eq_getElem?_getD, List.getElem?_eq_getElem h2]; rfl
    rw [Ob.lexAt_succ, List.drop_eq_getElem_cons h1, List.drop_eq_getElem_cons h2, HT.lexLt_cons, ih (i + 1) (by omega), g1, g2]
    by_cases h : ns[i] = ms[i]
    · rw [if_pos (decide_eq_true h), if_pos h.symm]
    · rw [if_neg (by rw [decide_eq_false h]; decide), if_neg (fun z => h z.symm)]
/-- t > u of tuples of ints of one length -/
theorem gt_tupInts {prog : Program} {w : World} {A : Around} {E : Value → Shared → Prop} {s : Shared} {l b : Addr} {items items2 : Array Value} {ns ms : List Int} {Q : Value → Shared → Prop} (hl : s.heap.IsTuple l items) (hb : s.heap.IsTuple b items2)
    (i1 : IntsAre items.toList ns) (i2 : IntsAre items2.toList ms) (hlen : ns.length = ms.length) (hu : A.units < cLine) (h : Q (.bool (HT.lexLt ms ns)) s) : wpAny (model prog w) A (richCompare .Gt (.ref l) (.ref b)) Q E s := by
  have e1 : items.size = ns.length := by rw [← i1.length]; simp
  have e2 : items2.size = ms.length := by rw [← i2.length]; simp
  have at1 : ∀ j (h1 : j < items.size), ∃ t, items[j] = .int (ns.getD j 0) t := fun j h1 => PyProof.Rows.IntsAre.int_at i1 _ _ (by simp [h1])
  have at2 : ∀ j (h1 : j < items2.size), ∃ t, items2[j] = .int (ms.getD j 0) t := fun j h1 => PyProof.Rows.IntsAre.int_at i2 _ _ (by simp [h1])
  have R := Ob.RcOp.tuples_gt (A := A) (s := s) (e := fun j => decide (ns.getD j 0 = ms.getD j 0)) (r := fun j => decide (ms.getD j 0 < ns.getD j 0)) hl hb hu (fun j h1 h2 => by
    obtain ⟨t, et⟩ := at1 j h1
    obtain ⟨t', et'⟩ := at2 j h2
    rw [et, et']
    have z : (ns.getD j 0 == ms.getD j 0) = decide (ns.getD j 0 = ms.getD j 0) := by
      by_cases q : ns.getD j 0 = ms.getD j 0
      · rw [decide_eq_true q]; exact beq_iff_eq.mpr q
      · rw [decide_eq_false q]; exact beq_eq_false_iff_ne.mpr q
    rw [← z]
    exact SeqAt.EqAt.int_int _ _ _ _) (fun j h1 h2 _ => by
    obtain ⟨t, et⟩ := at1 j h1
    obtain ⟨t', et'⟩ := at2 j h2
    rw [et, et']
    exact Ob.RcOp.gt_int _ _ _ _)
  rw [e1, e2, hlen, Nat.min_self, decide_eq_false (Nat.lt_irrefl _), ← hlen, lexAt_gt ns ms hlen ns.length 0 (by omega), List.drop_zero, List.drop_zero] at R
  exact R prog w E Q h
/-- max(xs), xs a list of tuples of ints of one length -/
def rMaxT (K : PySem.W.Frag) : List V → Hp → VK → Prop := fun vs H Q => ∃ (a : Addr) (ps : List Addr) (ky : Addr → List Int) (n : Nat), vs = [V.ref a] ∧ SqL K H a (ps.map V.ref) ∧ ps ≠ [] ∧ (∀ p ∈ ps, SqT K H p ((ky p).map V.int) ∧ (ky p).length = n) ∧
  ∀ p ∈ ps, (∀ q ∈ ps, HT.lexLt (ky p) (ky q) = false) → Q (.ref p) H
section
variable {X : Cx}
theorem cr_maxT {k : Nat} (hr : Room k X.A) : CallR X (.builtin "max") (rMaxT X.K) := by
  intro pins s σ H vs us Q I r h
  obtain ⟨a, ps, ky, n, rfl, hs, hne, hp, q⟩ := h
  obtain ⟨its, rv, hl, _⟩ := I.list hs
  rw [Vals.ref1 r]
  have hsz : its.toArray.size = ps.length := by
    have := rv.length
    simpa using this.symm
  have hpl : 0 < ps.length := List.length_pos_iff.mpr hne
  have hun : X.A.in1.units < cLine := by
    have := hr.un
    rw [Around.in1_units]
    omega
  refine call_max_walkH (PySem.W.iter_listW (A := X.A.in1) hr.hd hl.isList fun s₂ e W st hfp hw hk => ?_)
  have item : ∀ (i : Nat) (v : Value), its.toArray[i]? = some v → ∃ p, ps[i]? = some p ∧ v = .ref p := fun i v hv => by
    have hv' : its[i]? = some v := by simpa using hv
    have hi : i < ps.length := by
      have h1 := (List.getElem?_eq_some_iff.mp hv').1
      rw [List.size_toArray] at hsz
      omega
    obtain ⟨u, hu, ru⟩ := rv.get (i := i) (x := .ref ps[i]) (by rw [List.getElem?_map, List.getElem?_eq_getElem hi]; rfl)
    rw [hv'] at hu
    cases hu
    exact ⟨_, List.getElem?_eq_getElem hi, ru⟩
  refine ⟨_, _, _, _, _, _, _, s.heap, (fun i j => HT.lexLt (ky (ps.getD j 0)) (ky (ps.getD i 0))), rfl, W, st, hfp, by omega, hw, hk, fun i j vi vj s3 Q' E' hH hPi hPj hQ => ?_, fun v s' hP m => ?_⟩
  · obtain ⟨p1, g1, rfl⟩ := item i vi hPi
    obtain ⟨p2, g2, rfl⟩ := item j vj hPj
    have e1 : ps.getD i 0 = p1 := by rw [List.getD_eq_getElem?_getD, g1]; rfl
    have e2 : ps.getD j 0 = p2 := by rw [List.getD_eq_getElem?_getD, g2]; rfl
    replace hQ : Q' (.bool (HT.lexLt (ky (ps.getD j 0)) (ky (ps.getD i 0)))) s3 := hQ
    rw [e1, e2] at hQ
    obtain ⟨t1, n1⟩ := hp p1 (List.mem_of_getElem? g1)
    obtain ⟨t2, n2⟩ := hp p2 (List.mem_of_getElem? g2)
    obtain ⟨is1, r1, ⟨o1, ho1, w1⟩, _⟩ := I.tuple t1
    obtain ⟨is2, r2, ⟨o2, ho2, w2⟩, _⟩ := I.tuple t2
    exact gt_tupInts (A := X.A.in1) (items := is1.toArray) (items2 := is2.toArray) ⟨o1, hH _ _ ho1, w1⟩ ⟨o2, hH _ _ ho2, w2⟩ (ns := ky p1) (ms := ky p2) (Vals.ints r1) (Vals.ints r2) (n1.trans n2.symm) hun hQ
  · obtain ⟨h', tk, rfl, hk'⟩ := PySem.W.moved_old e rfl m
    obtain ⟨m1, m2⟩ := argBest_least (fun i => ky (ps.getD i 0)) (fun a b => HT.lexLt b a) (fun a b h => NtL.lex_asym _ _ h) (fun a b c h1 h2 => NtL.lex_tr _ _ _ h2 h1) (its.toArray.size - 1)
    generalize hN0 : argBest (fun i j => HT.lexLt (ky (ps.getD j 0)) (ky (ps.getD i 0))) (its.toArray.size - 1) = N0 at m1 m2 hP
    obtain ⟨p, g, rfl⟩ := item N0 v hP
    refine ⟨.ref p, H, I.kept hk', rfl, q p (List.mem_of_getElem? g) fun p' hp' => ?_⟩
    obtain ⟨k', hk2, rfl⟩ := List.getElem_of_mem hp'
    have := m2 k' (by omega)
    have hget : ps.getD k' 0 = ps[k'] := by rw [List.getD_eq_getElem?_getD, List.getElem?_eq_getElem hk2]; rfl
    have e1 : ps.getD N0 0 = p := by rw [List.getD_eq_getElem?_getD, g]; rfl
    simp only [hget, e1] at this
    exact this
/-- max(xs, default=d), xs a list of ints -/
def rMaxDef (K : PySem.W.Frag) : List V → List V → Hp → VK → Prop := fun vs zs H Q => ∃ (a : Addr) (ns : List Int) (d : V), vs = [V.ref a] ∧ zs = [d] ∧ SqL K H a (ns.map V.int) ∧ (ns = [] → Q d H) ∧ ∀ m, m ∈ ns → (∀ y, y ∈ ns → y ≤ m) → Q (.int m) H
theorem cr_maxDef {k : Nat} (hr : Room k X.A) : CallRK X (.builtin "max") [Str.ofString "default"] (rMaxDef X.K) := by
  intro pins s σ H vs zs us ws Q I r rz h
  obtain ⟨a, ns, d, rfl, rfl, hs, q0, q⟩ := h
  obtain ⟨its, rv, hl, _⟩ := I.list hs
  obtain rfl := Vals.ref1 r
  obtain ⟨du, rfl, rd⟩ := vals1 rz
  have hsz : its.toArray.size = ns.length := by
    have := rv.length
    simpa using this.symm
  refine call_max_walkD (PySem.W.iter_listW (A := X.A.in1) hr.hd hl.isList fun s₂ e W st hfp hw hk => ?_)
  have item : ∀ (i : Nat) (v : Value), its.toArray[i]? = some v → ∃ n t, ns[i]? = some n ∧ v = .int n t := fun i v hv => by
    have hv' : its[i]? = some v := by simpa using hv
    have hi : i < ns.length := by
      have h1 := (List.getElem?_eq_some_iff.mp hv').1
      rw [List.size_toArray] at hsz
      omega
    obtain ⟨u, hu, t, ru⟩ := rv.get (i := i) (x := .int ns[i]) (by rw [List.getElem?_map, List.getElem?_eq_getElem hi]; rfl)
    rw [hv'] at hu
    cases hu
    exact ⟨_, t, List.getElem?_eq_getElem hi, ru⟩
  refine ⟨_, _, _, _, _, _, _, s.heap, (fun i j => decide (ns.getD j 0 < ns.getD i 0)), rfl, W, st, hfp, hw, hk, fun hz s' m => ?_, fun hn => ⟨fun i j vi vj s3 Q' E' hH hPi hPj hQ => ?_, fun v s' hP m => ?_⟩⟩
  · obtain ⟨h', tk, rfl, hk'⟩ := PySem.W.moved_old e rfl m
    exact ⟨d, H, I.kept hk', rd, q0 (List.eq_nil_of_length_eq_zero (by omega))⟩
  · obtain ⟨n1, t1, g1, rfl⟩ := item i vi hPi
    obtain ⟨n2, t2, g2, rfl⟩ := item j vj hPj
    have e1 : ns.getD i 0 = n1 := by rw [List.getD_eq_getElem?_getD, g1]; rfl
    have e2 : ns.getD j 0 = n2 := by rw [List.getD_eq_getElem?_getD, g2]; rfl
    replace hQ : Q' (.bool (decide (ns.getD j 0 < ns.getD i 0))) s3 := hQ
    rw [e1, e2] at hQ
    exact PyProof.Rows.gt_int hQ
  · obtain ⟨h', tk, rfl, hk'⟩ := PySem.W.moved_old e rfl m
    obtain ⟨m1, m2⟩ := argBest_least (fun i => ns.getD i 0) (fun a b => decide (b < a)) (fun a b h => by simp at h ⊢; omega) (fun a b c h1 h2 => by simp at h1 h2 ⊢; omega) (its.toArray.size - 1)
    generalize hN0 : argBest (fun i j => decide (ns.getD j 0 < ns.getD i 0)) (its.toArray.size - 1) = N0 at m1 m2 hP
    obtain ⟨n, t, g, rfl⟩ := item N0 v hP
    refine ⟨.int n, H, I.kept hk', ⟨t, rfl⟩, q n (List.mem_of_getElem? g) fun y hy => ?_⟩
    obtain ⟨k', hk2, rfl⟩ := List.getElem_of_mem hy
    have := m2 k' (by omega)
    have hget : ns.getD k' 0 = ns[k'] := by rw [List.getD_eq_getElem?_getD, List.getElem?_eq_getElem hk2]; rfl
    have e1 : ns.getD N0 0 = n := by rw [List.getD_eq_getElem?_getD, g]; rfl
    simp only [hget, e1, decide_eq_false_iff_not] at this
    omega
/-- sum(t), t a tuple of ints -/
def rSumT (K : PySem.W.Frag) : List V → Hp → VK → Prop := fun vs H Q => ∃ (a : Addr) (ns : List Int), vs = [V.ref a] ∧ SqT K H a (ns.map V.int) ∧ Q (.int ns.sum) H
theorem cr_sumT {k : Nat} (hr : Room k X.A) : CallR X (.builtin "sum") (rSumT X.K) := by
  intro pins s σ H vs us Q I r h
  obtain ⟨a, ns, rfl, hs, q⟩ := h
  obtain ⟨its, rv, hl, _⟩ := I.tuple hs
  rw [Vals.ref1 r]
  have hi : IntsAre its ns := Vals.ints rv
  have hsz : its.toArray.size = ns.length := by
    have := rv.length
    simpa using this.symm
  refine call_sum_walkAnyS (PySem.W.iter_tupleW (A := X.A.in1) hr.hd (show s.heap.IsTuple a its.toArray from hl) fun s₂ e W st hfp hw hk => ?_)
  refine ⟨_, _, _, _, _, _, _, fun i => ns.getD i 0, rfl, W, st, hfp, fun i v hv => ?_, fun s' t' m => ?_⟩
  · exact PyProof.Rows.IntsAre.int_at hi _ _ (by simpa using hv)
  · obtain ⟨h', tk, rfl, hk'⟩ := PySem.W.moved_old e rfl m
    refine ⟨.int _, H, I.kept hk', ⟨t', rfl⟩, ?_⟩
    have key := preSum_list (fun i => ns.getD i 0) (List.range ns.length)
    rw [List.length_range] at key
    have e1 : preSum (fun i => ns.getD i 0) its.toArray.size = ns.sum := by
      rw [hsz]
      have e2 : ∀ k, k ≤ ns.length → preSum (fun i => ns.getD i 0) k = (ns.take k).sum := by
        intro k
        induction k with
        | zero => intro _; rfl
        | succ k ih =>
          intro hk
          show preSum (fun i => ns.getD i 0) k + ns.getD k 0 = _
          rw [ih (by omega), List.take_succ, List.getElem?_eq_getElem (by omega), List.sum_append, List.getD_eq_getElem?_getD, List.getElem?_eq_getElem (by omega)]
          simp
      rw [e2 _ (Nat.le_refl _), List.take_length]
    rw [e1]
    exact q
end
end G3

set_option Elab.async false
set_option linter.all false
set_option maxRecDepth 100000
set_option maxHeartbeats 2000000
/-! dict(pairs) and d[k] where the keys are tuples of ints and None. -/
namespace G3
open PySem PySem.Spec PyProof.Rows L2
def keyV : Option Nat → V
  | .none => .non
  | .some n => .int (n : Int)
def leafO : Option Nat → Leaf
  | .none => .none
  | .some n => .num (n : Int)
theorem leafO_inj {a b : Option Nat} (h : leafO a = leafO b) : a = b := by
  cases a with
  | none => cases b with
    | none => rfl
    | some n => exact absurd h (fun z => nomatch z)
  | some n => cases b with
    | none => exact absurd h (fun z => nomatch z)
    | some m =>
      have : (n : Int) = (m : Int) := Leaf.num.inj h
      have e : n = m := by omega
      rw [e]
theorem leafs_inj : ∀ {a b : List (Option Nat)}, a.map leafO = b.map leafO → a = b
  | [], [], _ => rfl
  | [], _ :: _, h => by simp at h
  | _ :: _, [], h => by simp at h
  | x :: xs, y :: ys, h => by
    rw [List.map_cons, List.map_cons] at h
    injection h with h1 h2
    rw [leafO_inj h1, leafs_inj h2]
section
variable {prog : Program} {w : World}
theorem leaf_is : ∀ (x : Option Nat) (u : Value), RelV (keyV x) u → (leafKind prog w).is (leafO x) u = true
  | .none, u, r => by
    cases r
    exact PyProof.Rows.leaf_none
  | .some n, u, r => by
    obtain ⟨t, rfl⟩ := r
    exact PyProof.Rows.leaf_int _ _
theorem leafs_are : ∀ (g : List (Option Nat)) (us : List Value), Vals (g.map keyV) us → ItemsAre (leafKind prog w) (g.map leafO) us
  | [], us, r => by
    cases r
    exact .nil
  | x :: g, us, r => by
    rw [List.map_cons] at r
    cases r with
    | cons h t => exact .cons (leaf_is x _ h) (leafs_are g _ t)
/-- the dict's entries -/
def dPhi (prog : Program) (w : World) (p : Addr) (xs : List (List Leaf × Addr × Value)) : Heap → Prop := fun h =>
  ∃ o es ep, h.get? p = some o ∧ o.ExactDict ∧ o.data = .dict es ep ∧ es.toList = xs.map (entryOfKey (tupleKind (leafKind prog w))) ∧ (xs.map (·.1)).Nodup
/-- at p stands a dict, keys among S, each value told by R -/
def DG (prog : Program) (w : World) (K : PySem.W.Frag) (H : Hp) (p : Addr) (R : List (Option Nat) → V → Prop) (S : List (List (Option Nat))) : Prop :=
  ∃ xs : List (List Leaf × Addr × Value), H p = some (.ext (dPhi prog w p xs)) ∧ (∀ x ∈ xs, ∃ g v, x.1 = g.map leafO ∧ SqT K H x.2.1 (g.map keyV) ∧ R g v ∧ RelV v x.2.2) ∧ ∀ g ∈ S, ∃ x ∈ xs, x.1 = g.map leafO
theorem DG.mono {K : PySem.W.Frag} {H H' : Hp} {p : Addr} {R R' : List (Option Nat) → V → Prop} {S : List (List (Option Nat))} (d : DG prog w K H p R S) (e1 : ∀ φ, H p = some (.ext φ) → H' p = some (.ext φ)) (e2 : ∀ a xs, SqT K H a xs → SqT K H' a xs) (e3 : ∀ g v, R g v → R' g v) : DG prog w K H' p R' S := by
  obtain ⟨xs, h1, h2, h3⟩ := d
  refine ⟨xs, e1 _ h1, fun x hx => ?_, h3⟩
  obtain ⟨g, v, a1, a2, a3, a4⟩ := h2 x hx
  exact ⟨g, v, a1, e2 _ _ a2, e3 _ _ a3, a4⟩
theorem is_key {X : Cx} {pins : List (Addr × Obj)} {σ : L2.St} {H : Hp} {s : Shared} (I : Inv X pins σ H s) {b : Addr} {g : List (Option Nat)} (h : SqT X.K H b (g.map keyV)) : (tupleKind (leafKind X.prog X.w)).is s.heap (g.map leafO) b := by
  obtain ⟨its, rv, ⟨o, ho, hc, n, hd⟩, _⟩ := I.tuple h
  exact ⟨o, its.toArray, n, ho, hc, hd, leafs_are g its rv⟩
theorem dictH {X : Cx} {pins : List (Addr × Obj)} {σ : L2.St} {H : Hp} {s : Shared} (I : Inv X pins σ H s) {p : Addr} {xs : List (List Leaf × Addr × Value)} (h : H p = some (.ext (dPhi X.prog X.w p xs))) (hx : ∀ x ∈ xs, ∃ g : List (Option Nat), x.1 = g.map leafO ∧ SqT X.K H x.2.1 (g.map keyV)) :
    s.heap.DictOfH (tupleKind (leafKind X.prog X.w)) p xs := by
  obtain ⟨⟨o, es, ep, h1, h2, h3, h4, h5⟩, _, _⟩ := I.hok p _ h
  refine ⟨o, es, ep, h1, h2, h3, h4, fun x hm => ?_, h5⟩
  obtain ⟨g, e, ht⟩ := hx x hm
  rw [e]
  exact is_key I ht
theorem storedH_mem {K : Type} [DecidableEq K] {xs : List (K × Addr × Value)} {k : K} {a : Addr} {v : Value} {x : K × Addr × Value} (h : x ∈ storedH xs k a v) : x ∈ xs ∨ (x.1 = k ∧ x.2.2 = v ∧ (x.2.1 = a ∨ ∃ y ∈ xs, y.1 = k ∧ y.2.1 = x.2.1)) := by
  unfold storedH at h
  split at h
  · obtain ⟨y, hy, e⟩ := List.mem_map.mp h
    unfold putAt at e
    split at e
    · rename_i hk
      subst e
      exact .inr ⟨hk, rfl, .inr ⟨y, hy, hk, rfl⟩⟩
    · subst e
      exact .inl hy
  · rcases List.mem_append.mp h with h | h
    · exact .inl h
    · rw [List.mem_singleton.mp h]
      exact .inr ⟨rfl, rfl, .inl rfl⟩
theorem storedH_has {K : Type} [DecidableEq K] {xs : List (K × Addr × Value)} {k : K} {a : Addr} {v : Value} {k' : K} (h : (∃ x ∈ xs, x.1 = k') ∨ k' = k) : ∃ x ∈ storedH xs k a v, x.1 = k' := by
  unfold storedH
  split
  · rename_i hs
    have hh : ∃ x ∈ xs, x.1 = k' := by
      rcases h with h | h
      · exact h
      · unfold atKey at hs
        rw [Option.isSome_map, List.find?_isSome] at hs
        obtain ⟨x, hx, e⟩ := hs
        exact ⟨x, hx, by rw [h]; simpa using e⟩
    obtain ⟨x, hx, e⟩ := hh
    refine ⟨_, List.mem_map.mpr ⟨x, hx, rfl⟩, ?_⟩
    unfold putAt
    split
    · exact e
    · exact e
  · rcases h with ⟨x, hx, e⟩ | h
    · exact ⟨x, List.mem_append_left _ hx, e⟩
    · exact ⟨_, List.mem_append_right _ (List.mem_singleton.mpr rfl), h.symm⟩
theorem storedAll_mem {K : Type} [DecidableEq K] : ∀ (ps xs : List (K × Addr × Value)) (x : K × Addr × Value), x ∈ storedAllH xs ps → ∃ y ∈ xs ++ ps, ∃ z ∈ xs ++ ps, y.1 = x.1 ∧ y.2.1 = x.2.1 ∧ z.1 = x.1 ∧ z.2.2 = x.2.2
  | [], xs, x, h => ⟨x, List.mem_append_left _ h, x, List.mem_append_left _ h, rfl, rfl, rfl, rfl⟩
  | p :: ps, xs, x, h => by
    have h' : x ∈ storedAllH (storedH xs p.1 p.2.1 p.2.2) ps := h
    obtain ⟨y, hy, z, hz, e1, e2, e3, e4⟩ := storedAll_mem ps _ x h'
    have sub : ∀ y ∈ storedH xs p.1 p.2.1 p.2.2 ++ ps, (∃ y' ∈ xs ++ p :: ps, y'.1 = y.1 ∧ y'.2.1 = y.2.1) ∧ ∃ y' ∈ xs ++ p :: ps, y'.1 = y.1 ∧ y'.2.2 = y.2.2 := fun y hy => by
      rcases List.mem_append.mp hy with hy | hy
      · rcases storedH_mem hy with hy | ⟨a1, a2, a3⟩
        · exact ⟨⟨y, List.mem_append_left _ hy, rfl, rfl⟩, y, List.mem_append_left _ hy, rfl, rfl⟩
        · refine ⟨?_, p, by simp, a1.symm, a2.symm⟩
          rcases a3 with a3 | ⟨y', hy', b1, b2⟩
          · exact ⟨p, by simp, a1.symm, a3.symm⟩
          · exact ⟨y', List.mem_append_left _ hy', b1.trans a1.symm, b2⟩
      · exact ⟨⟨y, by simp [hy], rfl, rfl⟩, y, by simp [hy], rfl, rfl⟩
    obtain ⟨⟨y', hy', b1, b2⟩, _⟩ := sub y hy
    obtain ⟨_, z', hz', c1, c2⟩ := sub z hz
    exact ⟨y', hy', z', hz', b1.trans e1, b2.trans e2, c1.trans e3, c2.trans e4⟩
theorem storedAll_has {K : Type} [DecidableEq K] : ∀ (ps xs : List (K × Addr × Value)) (k : K), (∃ x ∈ xs ++ ps, x.1 = k) → ∃ x ∈ storedAllH xs ps, x.1 = k
  | [], xs, k, h => by
    rw [List.append_nil] at h
    exact h
  | p :: ps, xs, k, h => by
    show ∃ x ∈ storedAllH (storedH xs p.1 p.2.1 p.2.2) ps, x.1 = k
    refine storedAll_has ps _ k ?_
    obtain ⟨x, hx, e⟩ := h
    rcases List.mem_append.mp hx with hx | hx
    · obtain ⟨y, hy, e'⟩ := storedH_has (a := p.2.1) (v := p.2.2) (k := p.1) (k' := k) (.inl ⟨x, hx, e⟩)
      exact ⟨y, List.mem_append_left _ hy, e'⟩
    · rcases List.mem_cons.mp hx with hx | hx
      · obtain ⟨y, hy, e'⟩ := storedH_has (xs := xs) (a := p.2.1) (v := p.2.2) (k := p.1) (k' := k) (.inr (by rw [← e, hx]))
        exact ⟨y, List.mem_append_left _ hy, e'⟩
      · exact ⟨x, List.mem_append_right _ hx, e⟩
theorem entries_of {X : Cx} {pins : List (Addr × Obj)} {σ : L2.St} {H : Hp} {s : Shared} (I : Inv X pins σ H s) : ∀ {ps : List Addr} {ks : List (Addr × List (Option Nat) × V)}, Paired (fun p k => SqT X.K H p [.ref k.1, k.2.2] ∧ SqT X.K H k.1 (k.2.1.map keyV)) ps ks →
    ∃ xs : List (List Leaf × Addr × Value), xs.length = ps.length ∧ ∀ (j : Nat) x, xs[j]? = some x → ∃ b k, ps[j]? = some b ∧ ks[j]? = some k ∧ s.heap.IsTuple b #[.ref x.2.1, x.2.2] ∧ x.1 = k.2.1.map leafO ∧ x.2.1 = k.1 ∧ RelV k.2.2 x.2.2 ∧ SqT X.K H k.1 (k.2.1.map keyV)
  | _, _, .nil => ⟨[], rfl, fun j x e => by simp at e⟩
  | _, _, .cons (a := p) (b := k) h t => by
    obtain ⟨xs, hl, hp⟩ := entries_of I t
    obtain ⟨its, rv, ht, _⟩ := I.tuple h.1
    obtain ⟨u, y, ei, ru, ry⟩ := vals2 rv
    subst ei
    obtain rfl : u = Value.ref k.1 := ru
    refine ⟨(k.2.1.map leafO, k.1, y) :: xs, by rw [List.length_cons, List.length_cons, hl], fun j x e => ?_⟩
    cases j with
    | zero =>
      have e' : (k.2.1.map leafO, k.1, y) = x := Option.some.inj e
      subst e'
      exact ⟨p, k, rfl, rfl, ht, rfl, rfl, ry, h.2⟩
    | succ j =>
      obtain ⟨b, k', e1, e2, e3⟩ := hp j x (by simpa using e)
      exact ⟨b, k', by simpa using e1, by simpa using e2, e3⟩
end
section
variable {X : Cx}
/-- dict(ps), ps a list of pairs (a tuple of ints and None, a value) -/
def rDictG (X : Cx) : List V → Hp → VK → Prop := fun vs H Q => ∃ (a : Addr) (ps : List Addr) (ks : List (Addr × List (Option Nat) × V)), vs = [.ref a] ∧ SqL X.K H a (ps.map V.ref) ∧
  Paired (fun p k => SqT X.K H p [.ref k.1, k.2.2] ∧ SqT X.K H k.1 (k.2.1.map keyV)) ps ks ∧
  ∀ p φ, H p = none → DG X.prog X.w X.K (upd H p (.ext φ)) p (fun g v => ∃ k ∈ ks, k.2.1 = g ∧ k.2.2 = v) (ks.map (·.2.1)) → Q (.ref p) (upd H p (.ext φ))
theorem SqT.upd_new {K : PySem.W.Frag} {H : Hp} {a p : Addr} {o : HO} {xs : List V} (h : SqT K H a xs) (hp : H p = none) : SqT K (upd H p o) a xs := by
  rcases h with (h | ⟨ob, h⟩) | h
  · exact .inl (.inl (by rw [upd_ne (ne_of_none h hp)]; exact h))
  · exact .inl (.inr ⟨ob, by rw [upd_ne (ne_of_none h hp)]; exact h⟩)
  · exact .inr h
theorem call_dictG {k : Nat} (hr : Room k X.A) : CallR X (.type "dict") (rDictG X) := by
  intro pins s σ H vs us Q I r h
  obtain ⟨a, ps, ks, rfl, hq, hp, q⟩ := h
  obtain rfl := Vals.ref1 r
  obtain ⟨its, rv, pl, hz⟩ := I.list hq
  have ei := refs_at rv
  subst ei
  rw [List.length_map] at hz
  obtain ⟨xs, hl, hx⟩ := entries_of I hp
  obtain ⟨o, n, ho, hc, hd, hdat⟩ := pl
  have hlk : ks.length = ps.length := (Paired.length hp).symm
  have get : ∀ j, j < xs.length → ∃ x, xs[j]? = some x := fun j hj => ⟨_, List.getElem?_eq_getElem hj⟩
  refine call_dict_pairsH (knd := tupleKind (leafKind X.prog X.w)) (ps := xs) (PairArg.list a (ps.map Value.ref).toArray (fun j => ps.getD j 0) (xs.map fun x => (Value.ref x.2.1, x.2.2))) hr.hd (by have := hr.un; show X.A.units + 1 + 1 < _; omega)
    ⟨⟨o, n, ho, hc, hd, hdat⟩, by simp [hl], fun j kv v e => ?_⟩ ⟨by simp, fun j kv v e => ?_⟩ (fun h' hk x hm => ?_) (by rw [List.length_map, hl]; exact hz) fun h' tk hd' hk => ?_
  · rw [List.getElem?_map] at e
    cases ex : xs[j]? with
    | none => rw [ex] at e; cases e
    | some x =>
      rw [ex] at e
      obtain ⟨b, k', e1, e2, e3, _⟩ := hx j x ex
      have e' : (Value.ref x.2.1, x.2.2) = (kv, v) := Option.some.inj e
      injection e' with e4 e5
      subst e4 e5
      have eb : ps.getD j 0 = b := by rw [List.getD_eq_getElem?_getD, e1]; rfl
      show (ps.map Value.ref).toArray[j]? = some (.ref (ps.getD j 0)) ∧ PairAt s.heap (ps.getD j 0) (.ref x.2.1) x.2.2
      rw [eb]
      exact ⟨by simp [e1], .inl e3⟩
  · have e : (xs.map fun x => (Value.ref x.2.1, x.2.2))[j]? = some (kv, v) := e
    rw [List.getElem?_map] at e
    cases ex : xs[j]? with
    | none => rw [ex] at e; cases e
    | some x =>
      rw [ex] at e
      have e' : (Value.ref x.2.1, x.2.2) = (kv, v) := Option.some.inj e
      injection e' with e4 e5
      exact ⟨x.1, x.2.1, by rw [← e5], e4.symm⟩
  · obtain ⟨j, hj, rfl⟩ := List.getElem_of_mem hm
    obtain ⟨b, k', e1, e2, e3, e4, e5, e6, e7⟩ := hx j _ (List.getElem?_eq_getElem hj)
    rw [e4, e5]
    obtain ⟨o', its', n', h1, h2, h3, h4⟩ := is_key I e7
    exact ⟨o', its', n', hk _ _ (Nat.ne_of_lt (Heap.lt_size h1)) (by simp) h1, h2, h3, h4⟩
  · obtain ⟨o2, es, ep, g1, g2, g3, g4, g5, g6⟩ := id hd'
    have hnew : H s.heap.objs.size = none := I.hok.fresh (Nat.le_refl _)
    have J := I.laid (o := .ext (dPhi X.prog X.w s.heap.objs.size (storedAllH [] xs))) (t' := tk) (fun b u e => hk b u (by simp) e) (Nat.le_refl _) (show ObjOk X.prog X.w _ _ _ (.ext _) from ⟨⟨o2, es, ep, g1, g2, g3, g4, g6⟩, ⟨o2, g1⟩, fun h1 h2 ⟨o, es, ep, a, r⟩ st => ⟨o, es, ep, st _ a, r⟩⟩)
    refine ⟨.ref _, _, J, rfl, q _ _ hnew ⟨_, upd_same, fun x hm => ?_, fun g hg => ?_⟩⟩
    · obtain ⟨y, hy, z, hz', e1, e2, e3, e4⟩ := storedAll_mem xs [] x hm
      simp only [List.nil_append] at hy hz'
      obtain ⟨j, hj, rfl⟩ := List.getElem_of_mem hy
      obtain ⟨j2, hj2, rfl⟩ := List.getElem_of_mem hz'
      obtain ⟨b, k', c1, c2, c3, c4, c5, c6, c7⟩ := hx j _ (List.getElem?_eq_getElem hj)
      obtain ⟨b2, k2, d1, d2, d3, d4, d5, d6, d7⟩ := hx j2 _ (List.getElem?_eq_getElem hj2)
      have eg : k'.2.1 = k2.2.1 := leafs_inj (by rw [← c4, ← d4, e1, e3])
      refine ⟨k'.2.1, k2.2.2, by rw [← e1, c4], ?_, ⟨k2, List.mem_of_getElem? d2, eg.symm, rfl⟩, by rw [← e4]; exact d6⟩
      rw [← e2, c5]
      exact SqT.upd_new c7 hnew
    · obtain ⟨k', hk', rfl⟩ := List.mem_map.mp hg
      obtain ⟨j, hj, rfl⟩ := List.getElem_of_mem hk'
      have hj' : j < xs.length := by rw [hl, ← hlk]; exact hj
      obtain ⟨b, k2, c1, c2, c3, c4, _⟩ := hx j _ (List.getElem?_eq_getElem hj')
      rw [List.getElem?_eq_getElem hj] at c2
      cases c2
      refine storedAll_has xs [] _ ⟨xs[j], by simp, c4⟩
/-- d[k] -/
def rIxDG (X : Cx) : R2 := fun x y H Q => ∃ (d b : Addr) (R : List (Option Nat) → V → Prop) (S : List (List (Option Nat))) (g : List (Option Nat)), x = .ref d ∧ y = .ref b ∧ DG X.prog X.w X.K H d R S ∧ g ∈ S ∧ SqT X.K H b (g.map keyV) ∧ ∀ v, R g v → Q v H
theorem ix_dg {k : Nat} (hr : Room k X.A) : IxR X (rIxDG X) := by
  intro value slice pins s σ H x y v u Q I rx ry h hs
  obtain ⟨d, b, R, S, g, rfl, rfl, ⟨xs, h1, h2, h3⟩, hg, hb, q⟩ := h
  obtain rfl : v = Value.ref d := rx
  obtain rfl : u = Value.ref b := ry
  have hd := dictH I h1 fun x hx => let ⟨g, v, e1, e2, _⟩ := h2 x hx; ⟨g, e1, e2⟩
  obtain ⟨x, hx, ex⟩ := h3 g hg
  cases hf : atKey xs (g.map leafO) with
  | none =>
    unfold atKey at hf
    rw [Option.map_eq_none_iff, List.find?_eq_none] at hf
    exact absurd (decide_eq_true ex) (hf x hx)
  | some p =>
    have hp : ∃ z ∈ xs, z.1 = g.map leafO ∧ z.2 = p := by
      unfold atKey at hf
      obtain ⟨z, hz, e⟩ := Option.map_eq_some_iff.mp hf
      exact ⟨z, List.mem_of_find?_eq_some hz, by simpa using List.find?_some hz, e⟩
    obtain ⟨z, hz, e1, e2⟩ := hp
    obtain ⟨g', v', c1, c2, c3, c4⟩ := h2 z hz
    have eg : g' = g := leafs_inj (by rw [← c1, e1])
    subst eg
    refine subscriptTail_builtinR (x := p.2) hd.typeIs PySem.F.slot_dict_getitem.lookup (wpAny_getItem_heap (knd := tupleKind (leafKind X.prog X.w)) (by have := hr.un; show X.A.units + 1 < _; omega) (is_key I hb) hd hf ⟨rfl, ?_⟩) hs
    exact ⟨v', H, I.tok _, by rw [← e2]; exact c4, q v' c3⟩
end
end G3

set_option Elab.async false
set_option linter.all false
set_option maxRecDepth 100000
set_option maxHeartbeats 2000000
/-! list(reversed(xs)), xs a list. -/
namespace G3
open PySem PySem.Spec PyProof.Rows L2
section
variable {prog : Program} {w : World} {A : Around} {E : Value → Shared → Prop} {s : Shared}
/-- the empty list at S takes what the reversed iterator gives -/
theorem extend_rev {it l S : Addr} {items : Array Value} {R : Result → Shared → Prop} {res : Value} {c₀ : Nat} (hh : A.handled = none) (hit : s.heap.IsRevIter it l ((items.size : Int) - 1)) (hl : s.heap.IsList l items) (hne : l ≠ it) (hn : items.size ≤ sizeLine) (hSi : S ≠ it) (hSl : S ≠ l)
    (hS : s.heap.get? S = some { cls := .type "list", data := .seq #[] c₀ })
    (hR : ∀ (h' : Heap) (tk : Nat) (acc : Array Value) (c' : Nat), (∀ b o, b ≠ it → b ≠ S → s.heap.get? b = some o → h'.get? b = some o) → h'.get? S = some { cls := .type "list", dict := none, data := .seq acc c', slots := #[] } →
      ItemsOf (fun i v => items[items.size - 1 - i]? = some v) acc items.size → R (.ok (.ret res)) { s with heap := h', toks := tk }) :
    wpAny (model prog w) A.in1 (Builtin.List.listExtendWith (.ref S) (.ref it) res)
      (fun fin s' => match fin with | .done f => R (.ok f) s' | .again c' => c'.quiet = true ∧ codeAny (model prog w) A c' R s') (fun e s' => R (.error e) s') s := by
  have W := (Walks.listRev (prog := prog) (w := w) (A := A.in1) hh it l hne items).toS
  have out : S ∉ [it, l] := fun z => by
    rcases List.mem_cons.mp z with z | z
    · exact hSi z
    · exact hSl (List.mem_singleton.mp z)
  have kind : s.TypeIs (.ref it) "list_reverseiterator" := Heap.IsRevIter.typeIs hit
  have other : Builtin.List.listSameRef (.ref S) (.ref it) = false := by simp [Builtin.List.listSameRef, hSi]
  unfold Builtin.List.listExtendWith
  refine wpAny_bind (wpAny_typeOf kind ?_)
  rw [if_neg (by rw [other]; decide)]
  refine wpAny_bind (wpAny_pyIter_revIter hit ?_)
  refine wpAny_bind (wpAny_holding ?_)
  unfold Builtin.List.listLengthHint
  refine wpAny_bind (wpAny_specialOf kind RT.nolen_lri ?_)
  show wpAny _ A.in1 (specialOf (Value.ref it) (Str.ofString "__length_hint__") >>= _) _ _ _
  refine wpAny_bind (wpAny_specialOf kind RT.hint_lri ?_)
  generalize hid : ("list_reverseiterator.__length_hint__" : String) = name
  wp_delta
  rw [show splitId name = some ("list_reverseiterator", "__length_hint__") from by subst hid; decide +kernel]
  subst hid
  refine wpAny_bind (wpAny_isInstance (b := true) kind (by rw [isSubtype_type]; kernel_rfl) ?_)
  refine wpAny_pure ?_
  rw [if_neg (by decide)]
  have start : ((items.size : Nat) : Int) - 1 - ((0 : Nat) : Int) = (items.size : Int) - 1 := by omega
  refine wpAny_pure ⟨plainId_quiet F.plain_extend_loop _, codeAny_extend_loopS W hn _ out _ items.size 0 _ _ _ rfl (Nat.zero_le _) ⟨Nat.zero_le _, by rw [start]; exact hit, hl⟩ hS (ItemsOf.nil _) fun s' acc' c' hm hS' hacc => ?_⟩
  rw [Moved.eq_with hm]
  refine hR s'.heap s'.toks acc' c' (fun b o h1 h2 e => hm.heap b o (fun z => ?_) e) hS' hacc
  rcases List.mem_cons.mp z with z | z
  · exact h2 z
  · exact h1 (List.mem_singleton.mp z)
/-- list(it), it a reversed iterator -/
theorem call_list_rev {it l : Addr} {items : Array Value} {Q : Value → Shared → Prop} (hh : A.handled = none) (hit : s.heap.IsRevIter it l ((items.size : Int) - 1)) (hl : s.heap.IsList l items) (hne : l ≠ it) (hn : items.size ≤ sizeLine)
    (hQ : ∀ (h' : Heap) (tk : Nat) (acc : Array Value) (c' : Nat), (∀ b o, b ≠ it → s.heap.get? b = some o → h'.get? b = some o) → h'.get? s.heap.objs.size = some { cls := .type "list", dict := none, data := .seq acc c', slots := #[] } →
      ItemsOf (fun i v => items[items.size - 1 - i]? = some v) acc items.size → Q (.ref s.heap.objs.size) { s with heap := h', toks := tk }) :
    wpAny (model prog w) A (call (.type "list") [.ref it]) Q E s := by
  obtain ⟨oi, hoi, _⟩ := id hit
  obtain ⟨ol, hol, _⟩ := id hl
  have hSi : s.heap.objs.size ≠ it := Nat.ne_of_gt (Heap.lt_size hoi)
  have hSl : s.heap.objs.size ≠ l := Nat.ne_of_gt (Heap.lt_size hol)
  refine callType_codes (Q₁ := fun obj s₁ => obj = .ref s.heap.objs.size ∧ s₁ = { s with heap := s.heap.push { cls := .type "list", data := .seq #[] } }) PySem.F.called_list (PySem.F.typeCall_list_1 _) PySem.F.entry_list_init
    (code_list_new _ ⟨rfl, rfl⟩) fun obj s₁ h₁ => ?_
  obtain ⟨rfl, rfl⟩ := h₁
  have hS : (s.heap.push { cls := .type "list", data := .seq #[] }).get? s.heap.objs.size = some { cls := .type "list", data := .seq #[] } := Heap.get?_push_size _ rfl
  refine ⟨⟨_, hS, rfl⟩, PySem.F.args_list_init_2 _ _, ?_⟩
  show wpAny _ _ (do let old ← Builtin.List.listItems (.ref s.heap.objs.size); Builtin.List.listUpdate (.ref s.heap.objs.size) (fun _ => #[]); letGo old.toList.reverse; Builtin.List.listExtendWith (.ref s.heap.objs.size) (.ref it) .none) _ _ _
  refine wpAny_bind ?_
  unfold Builtin.List.listItems
  refine wpAny_bind (wpAny_seqItems hS rfl (wpAny_pure ?_))
  show wpAny _ _ (updateSeq s.heap.objs.size (fun _ => #[]) >>= fun _ => letGo (#[] : Array Value).toList.reverse >>= fun _ => Builtin.List.listExtendWith (.ref s.heap.objs.size) (.ref it) .none) _ _ _
  refine wpAny_bind (wpAny_updateSeq hS rfl ?_)
  have hS₂ := Heap.get?_update_self (Obj.mapSeq (fun _ => (#[] : Array Value))) hS rfl
  have old : ∀ b o, b ≠ s.heap.objs.size → s.heap.get? b = some o → ((s.heap.push { cls := .type "list", data := .seq #[] }).update s.heap.objs.size (Obj.mapSeq (fun _ => (#[] : Array Value)))).get? b = some o :=
    fun b o hb e => (Heap.get?_update_other _ _ (Ne.symm hb)).trans (Heap.get?_push_of_some _ e)
  refine wpAny_bind (wpAny_letGo ?_)
  refine extend_rev (A := A.in1) (s := { s with heap := (s.heap.push { cls := .type "list", data := .seq #[] }).update s.heap.objs.size (Obj.mapSeq (fun _ => (#[] : Array Value))) }) hh (hit.at fun o e => old _ _ hSi.symm e) (hl.at fun o e => old _ _ hSl.symm e) hne hn hSi hSl hS₂ fun h' tk acc c' hk hS' hacc => ?_
  exact ⟨rfl, hQ h' tk acc c' (fun b o hb e => hk b o hb (Nat.ne_of_lt (Heap.lt_size e)) (old b o (Nat.ne_of_lt (Heap.lt_size e)) e)) hS' hacc⟩
end
def tListRev (K : PySem.W.Frag) (te : TE) : TE := fun σ H Q => te σ H fun v H1 => ∃ (a : Addr) (xs : List V), v = .ref a ∧ SqL K H1 a xs ∧ ∀ q, H1 q = none → Q (.ref q) (upd H1 q (.lst xs.reverse))
theorem pe_listRev {X : Cx} {e : Expr} {te : TE} {p p2 pos pos2 : Pos} (hc : X.calm = true) (hg : Gl X "list") (hm : X.mg "list" = none) (hg2 : Gl X "reversed") (hm2 : X.mg "reversed" = none) (he : PE X e te)
    (hs : starEach [e] X.env = (false, eval e X.env) :: starEach [] X.env := by rfl)
    (hs2 : starEach [.Call (.Name "reversed" p2) [e] [] pos2] X.env = (false, eval (.Call (.Name "reversed" p2) [e] [] pos2) X.env) :: starEach [] X.env := by rfl) :
    PE X (.Call (.Name "list" p) [.Call (.Name "reversed" p2) [e] [] pos2] [] pos) (tListRev X.K te) := by
  refine ⟨fun pins s σ H Q I h => ?_⟩
  refine Call_ (ld_blt I hg hm boot_list (PyProof.Rows.callWith_type1 (args_cons (Call_ (ld_blt I hg2 hm2 PyProof.Rows.boot_reversed (PyProof.Rows.callWith_type1 (args_cons (thn (he.run pins s σ H _ I h) fun u s1 ⟨v, H1, I1, r1, q1⟩ => args_nil ?_) hs) hs rfl))) hs2) hs2 rfl))
  obtain ⟨a, xs, ev, hq, q⟩ := q1
  subst ev
  obtain rfl : u = Value.ref a := r1
  obtain ⟨its, rv, p', hz⟩ := I1.list hq
  refine call_reversed_list p'.isList (args_nil ?_)
  have I2 : L2.Inv X pins σ H1 { s1 with heap := s1.heap.push { cls := .type "list_reverseiterator", data := .fields #[.ref a, rawInt ((its.toArray.size : Int) - 1)] } } := I1.kept (t' := s1.toks) fun b o e => Heap.get?_push_of_some _ e
  obtain ⟨f0, f1, f2, f3, f4, f5⟩ := I1.fpOk (H' := H1) (b := s1.heap.objs.size) (Nat.le_refl _) (I1.hok.fresh (Nat.le_refl _))
  have hl := p'.isList
  obtain ⟨ol, hol, _⟩ := id hl
  have hne : a ≠ s1.heap.objs.size := Nat.ne_of_lt (Heap.lt_size hol)
  have hn : its.toArray.size ≤ sizeLine := by rw [List.size_toArray, ← rv.length]; exact hz
  refine call_list_rev (s := { s1 with heap := s1.heap.push { cls := .type "list_reverseiterator", data := .fields #[.ref a, rawInt ((its.toArray.size : Int) - 1)] } }) (I1.ok.hd hc) ⟨_, Heap.get?_push_size _ rfl, rfl, rfl⟩ (hl.push _) hne hn fun h' tk acc c' hk hS' hi => ?_
  have szI : (s1.heap.push { cls := .type "list_reverseiterator", data := .fields #[.ref a, rawInt ((its.toArray.size : Int) - 1)] }).objs.size = s1.heap.objs.size + 1 := Heap.size_push ..
  have fresh : H1 (s1.heap.push { cls := .type "list_reverseiterator", data := .fields #[.ref a, rawInt ((its.toArray.size : Int) - 1)] }).objs.size = none := I2.hok.fresh (Nat.le_refl _)
  have nS : ∀ b u, (s1.heap.push { cls := .type "list_reverseiterator", data := .fields #[.ref a, rawInt ((its.toArray.size : Int) - 1)] }).get? b = some u → b ≠ (s1.heap.push { cls := .type "list_reverseiterator", data := .fields #[.ref a, rawInt ((its.toArray.size : Int) - 1)] }).objs.size := fun b u e => Nat.ne_of_lt (Heap.lt_size e)
  have nit : ∀ b u, H1 b = some u → b ≠ s1.heap.objs.size := fun b u e z => by rw [z, f0] at e; cases e
  refine ⟨.ref _, upd H1 _ (.lst xs.reverse), ?_, rfl, q _ fresh⟩
  refine I2.step (g' := s1.gens) (d' := s1.drawn) (t' := tk) (ch := [s1.heap.objs.size]) (fun b hb => ?_) (fun b o _ _ hc e _ => hk b o (fun z => hc (by simp [z])) e) (fun b o _ _ hc e _ => ⟨o.slots, hk b o (fun z => hc (by simp [z])) e⟩)
    (fun b o _ e n => by rw [upd_ne (nS b o e)]; exact n) (fun b o hc e => ⟨o, hk b o (fun z => hc (by simp [z])) e⟩) (fun b ys e => by rw [upd_ne (ne_of_none e fresh)]; exact e) (fun b o u e => by rw [upd_ne (ne_of_none e fresh)]; exact e)
    (fun b ps e => ⟨#[], by rw [upd_ne (ne_of_none e fresh), e]; simp⟩) (fun m hm => ?_) (fun b u e => ?_) I2.bare
  · have e : b = s1.heap.objs.size := by simpa using hb
    subst e
    exact ⟨f3, f1, f4, f5⟩
  · obtain ⟨o, es, ep, ho, r⟩ := hm
    exact ⟨o, es, ep, hk _ o (Ne.symm f1) ho, r⟩
  · by_cases hb : b = (s1.heap.push { cls := .type "list_reverseiterator", data := .fields #[.ref a, rawInt ((its.toArray.size : Int) - 1)] }).objs.size
    · subst hb
      rw [upd_same] at e
      cases e
      refine ⟨by rw [List.length_reverse]; exact hz, acc.toList, c', RT.vals_rev rv hi, ?_⟩
      rw [Array.toArray_toList]
      exact hS'
    · rw [upd_ne hb] at e
      refine (I2.hok b u e).stay (fun c v hc q => hk c v ?_ q) (fun c q => by rw [upd_ne (ne_of_none q fresh)]; exact q) fun c ys q => by rw [upd_ne (ne_of_none q fresh)]; exact q
      rcases hc with z | z
      · rw [z]
        exact nit b u e
      · exact nit c _ z
end G3

set_option Elab.async false
set_option linter.all false
set_option maxRecDepth 100000
set_option maxHeartbeats 2000000
/-! The text by places; what the defs keep of the heap. -/
namespace G3
open PySem PySem.Spec PyProof.Rows L2
def top (i : Nat) : Stmt := PySem.Challenge.pw_pairmart_k26_givings_best_by_counts.main.body.getD i (.Pass ⟨0, 0, 0, 0⟩)
abbrev sCheck : Stmt := top 5
abbrev sWorths : Stmt := top 7
abbrev sInit : Stmt := inClass (top 8) 0
abbrev sPut : Stmt := inClass (top 8) 1
abbrev sLook : Stmt := inClass (top 8) 2
abbrev sShift : Stmt := inClass (top 8) 3
abbrev sPairs : Stmt := top 9
abbrev sProfile : Stmt := top 11
abbrev sWeights : Stmt := top 12
abbrev sBy : Stmt := top 13
abbrev sFirsts : Stmt := top 14
abbrev sLasts : Stmt := top 15
abbrev sLeast : Stmt := top 16
abbrev sRev : Stmt := top 17
abbrev sPlaces : Stmt := top 18
abbrev sMany : Stmt := top 19
abbrev sFlat : Stmt := top 21
abbrev sDice : Stmt := top 22
abbrev sRoll : Stmt := top 23
abbrev sRounds : Stmt := top 24
abbrev sList : Stmt := top 25
abbrev sGivings : Stmt := top 26
abbrev sLProfile : Stmt := top 27
abbrev sLaw : Stmt := top 28
/-- a def's body, its code object known -/
theorem Fun.okC {P : Program} {w : World} {K : PySem.W.Frag} {mg : Str → Option Value} {base : Heap} {x qual : Str} {st : Stmt} {f c : Addr} {fd : FuncData} {N ps : List Str} {k : Nat} {sp : Sp} (F : Fun K x qual st f fd) (hc : fd.code = .ref c) (S : FnScope N ps (defScope st)) (len : ∀ vs H Q E, sp vs H Q E → vs.length = ps.length)
    (hbody : ∀ (A : Around) (outer : List Env) (s : Shared) (H : Hp) (vs : List V) (Q : VK) (E : XK), Room k (A.deeper (envOfC qual (defScope st) s.heap.objs.size f (.ref c))) → sp vs H Q E →
      ∃ t, PSs (cxOf CX0 P w K mg base N qual (defScope st) f (.ref c) A outer s H E).nox (defBody st) t ∧ t { nx := fun _ H' => Q .non H', rt := Q } (start N vs) H) : FnOk P w K mg base CX0 (k + 1) f fd ps sp := by
  obtain ⟨oc, od, kV, doc, pm, an, cdv, ct, osl, rfl, lk, hcd⟩ := F.ex
  obtain rfl : cdv = .ref c := hc
  refine fn_of lk hcd S len fun A outer s H vs Q E hr hsp => ?_
  obtain ⟨t, h, q⟩ := hbody A outer s H vs Q E hr hsp
  exact ⟨t, h.nox, q⟩
/-! ### tables -/
/-- where the tables of code objects stand: those of three generator expressions, and the lambda's -/
structure TbA where
  gl : Addr
  gw : Addr
  gs : Addr
  lp : Addr
  ql : Str
structure Tb (T : TbA) (H : Hp) : Prop where
  gl : GxR.TabG H T.gl
  gw : GxR.TabG H T.gw
  gs : GxR.TabG H T.gs
  lp : LamX.TabS H T.lp T.ql
/-- what a def keeps: all but the tables and what M tells -/
structure Xo (T : TbA) (M : Addr → Prop) (H H' : Hp) : Prop where
  keep : ∀ b o, H b = some o → ¬ M b → (∀ ps, o ≠ .tbl ps) → H' b = some o
  tbl : ∀ b ps, H b = some (.tbl ps) → ∃ ps', H' b = some (.tbl ps')
  tb : Tb T H → Tb T H'
abbrev nM : Addr → Prop := fun _ => False
/-- neither a table nor a code object -/
def Soft (o : Option HO) : Prop := (∀ ps, o ≠ some (.tbl ps)) ∧ ∀ φ, o ≠ some (.ext φ)
theorem Soft.none : Soft none := ⟨fun _ z => (by cases z), fun _ z => (by cases z)⟩
theorem Soft.lst {xs : List V} : Soft (some (.lst xs)) := ⟨fun _ z => (by cases z), fun _ z => (by cases z)⟩
theorem Soft.ins {C dx : Addr} {fs : List (Str × V)} : Soft (some (.ins C dx fs)) := ⟨fun _ z => (by cases z), fun _ z => (by cases z)⟩
section
variable {T : TbA} {M M' : Addr → Prop} {H H1 H2 : Hp} {a : Addr} {o : HO}
theorem Xo.refl : Xo T M H H := ⟨fun _ _ h _ _ => h, fun _ ps h => ⟨ps, h⟩, fun h => h⟩
theorem Xo.trans (x : Xo T M H H1) (y : Xo T M H1 H2) : Xo T M H H2 :=
  ⟨fun b o h m n => y.keep b o (x.keep b o h m n) m n, fun b ps h => let ⟨_, e⟩ := x.tbl b ps h; y.tbl b _ e, fun h => y.tb (x.tb h)⟩
theorem Xo.mono (x : Xo T M H H1) (s : ∀ b, M b → M' b) : Xo T M' H H1 := ⟨fun b o h m n => x.keep b o h (fun z => m (s b z)) n, x.tbl, x.tb⟩
theorem Tb.ext {T : TbA} {H H' : Hp} (t : Tb T H) (e : ∀ b o, H b = some o → ((∃ ps, o = .tbl ps) ∨ ∃ φ, o = .ext φ) → H' b = some o) : Tb T H' := by
  have g : ∀ P, GxR.TabG H P → GxR.TabG H' P := fun P ⟨ps, h1, h2⟩ => ⟨ps, e _ _ h1 (.inl ⟨ps, rfl⟩), h2⟩
  refine ⟨g _ t.gl, g _ t.gw, g _ t.gs, ?_⟩
  obtain ⟨ps, h1, h2, h3⟩ := t.lp
  refine ⟨ps, e _ _ h1 (.inl ⟨ps, rfl⟩), h2, fun pos cv hc => ?_⟩
  obtain ⟨c, e1, e2⟩ := h3 pos cv hc
  exact ⟨c, e1, e _ _ e2 (.inr ⟨_, rfl⟩)⟩
theorem Xo.of (e : ∀ b o, H b = some o → H1 b = some o) : Xo T M H H1 := ⟨fun b o h _ _ => e b o h, fun b ps h => ⟨ps, e b _ h⟩, fun t => t.ext fun b o h _ => e b o h⟩
/-- what is not there behind was not there ahead -/
theorem Xo.free (x : Xo T M H H1) (h : H1 a = none) (m : ¬ M a) : H a = none := by
  cases e : H a with
  | none => rfl
  | some o =>
    by_cases ht : ∃ ps, o = .tbl ps
    · obtain ⟨ps, rfl⟩ := ht
      obtain ⟨ps', z⟩ := x.tbl a ps e
      rw [h] at z
      cases z
    · have := x.keep a o e m fun ps z => ht ⟨ps, z⟩
      rw [h] at this
      cases this
theorem Xo.new1 (hn : H a = none) : Xo T M H (upd H a o) := .of fun b u h => by rw [upd_ne (ne_of_none h hn)]; exact h
theorem Xo.new (x : Xo T M H H1) (hn : H1 a = none) : Xo T M H (upd H1 a o) := x.trans (.new1 hn)
theorem Xo.mut (x : Xo T M H H1) (hm : H a = none ∨ M a) (hs : Soft (H1 a)) : Xo T M H (upd H1 a o) := by
  refine ⟨fun b u h m n => ?_, fun b ps h => ?_, fun t => (x.tb t).ext fun b u h k => ?_⟩
  · have hb : b ≠ a := fun z => by
      rcases hm with hm | hm
      · rw [z, hm] at h
        cases h
      · exact m (z ▸ hm)
    rw [upd_ne hb]
    exact x.keep b u h m n
  · obtain ⟨ps', e⟩ := x.tbl b ps h
    have hb : b ≠ a := fun z => by
      rw [z] at e
      exact hs.1 ps' e
    exact ⟨ps', by rw [upd_ne hb]; exact e⟩
  · have hb : b ≠ a := fun z => by
      subst z
      rcases k with ⟨ps, rfl⟩ | ⟨φ, rfl⟩
      · exact hs.1 ps h
      · exact hs.2 φ h
    rw [upd_ne hb]
    exact h
/-- what M tells was not there -/
theorem Xo.drop (x : Xo T M H H1) (h : ∀ b, M b → H b = none ∨ M' b) : Xo T M' H H1 := by
  refine ⟨fun b o e m n => x.keep b o e (fun z => ?_) n, x.tbl, x.tb⟩
  rcases h b z with h | h
  · rw [h] at e
    cases e
  · exact m h
theorem Xo.lst (x : Xo T M H H1) {xs : List V} (h : H a = some (.lst xs)) (m : ¬ M a) : H1 a = some (.lst xs) := x.keep a _ h m fun ps z => by cases z
theorem Xo.seqL {K : PySem.W.Frag} (x : Xo T M H H1) {xs : List V} (h : SqL K H a xs) (m : ∀ o, H a = some o → ¬ M a) : SqL K H1 a xs := by
  rcases h with (h | ⟨o, h⟩) | h
  · exact .inl (.inl (x.keep a _ h (m _ h) fun ps z => by cases z))
  · exact .inl (.inr ⟨o, x.keep a _ h (m _ h) fun ps z => by cases z⟩)
  · exact .inr h
theorem Xo.seqT {K : PySem.W.Frag} (x : Xo T M H H1) {xs : List V} (h : SqT K H a xs) (m : ∀ b ys, H b = some (.tup ys) → ¬ M b) (m2 : ∀ b o ys, H b = some (.frz o ys) → ¬ M b) : SqT K H1 a xs := by
  rcases h with (h | ⟨o, h⟩) | h
  · exact .inl (.inl (x.keep a _ h (m _ _ h) fun ps z => by cases z))
  · exact .inl (.inr ⟨o, x.keep a _ h (m2 _ _ _ h) fun ps z => by cases z⟩)
  · exact .inr h
theorem Xo.sL {K : PySem.W.Frag} (x : Xo T nM H H1) {xs : List V} (h : SqL K H a xs) : SqL K H1 a xs := x.seqL h fun _ _ z => z
theorem Xo.sT {K : PySem.W.Frag} (x : Xo T nM H H1) {xs : List V} (h : SqT K H a xs) : SqT K H1 a xs := x.seqT h (fun _ _ _ z => z) fun _ _ _ _ z => z
/-- a generator's table has grown -/
theorem Xo.gen {P : Addr} (h : GxR.Tabbed P H H1) (hp : GxR.TabG H P) (hP : P ≠ T.lp) : Xo T M H H1 := by
  obtain ⟨p0, e0, _⟩ := hp
  obtain ⟨ps1, e1, e2⟩ := h.1
  have g : ∀ Q, GxR.TabG H Q → GxR.TabG H1 Q := fun Q hq => by
    by_cases e : Q = P
    · rw [e]
      exact ⟨ps1, e1, e2⟩
    · obtain ⟨ps, h1, h2⟩ := hq
      exact ⟨ps, by rw [h.2 Q e]; exact h1, h2⟩
  refine ⟨fun b o e _ n => ?_, fun b ps e => ?_, fun t => ⟨g _ t.gl, g _ t.gw, g _ t.gs, ?_⟩⟩
  · have hb : b ≠ P := fun z => by
      rw [z, e0] at e
      cases e
      exact n _ rfl
    rw [h.2 b hb]
    exact e
  · by_cases hb : b = P
    · exact ⟨ps1, by rw [hb]; exact e1⟩
    · exact ⟨ps, by rw [h.2 b hb]; exact e⟩
  · obtain ⟨ps, h1, h2, h3⟩ := t.lp
    refine ⟨ps, by rw [h.2 _ (Ne.symm hP)]; exact h1, h2, fun pos cv hc => ?_⟩
    obtain ⟨c, c1, c2⟩ := h3 pos cv hc
    have hb : c ≠ P := fun z => by
      rw [z, e0] at c2
      cases c2
    exact ⟨c, c1, by rw [h.2 c hb]; exact c2⟩
end
/-! ### numbers as values -/
abbrev iv (n : Nat) : V := .int (n : Int)
abbrev ov (o : Option Nat) : V := keyV o
theorem iv_inj {a b : Nat} (h : iv a = iv b) : a = b := by
  have : (a : Int) = (b : Int) := V.int.inj h
  omega
theorem keyV_inj {a b : Option Nat} (h : keyV a = keyV b) : a = b := by
  cases a with
  | none => cases b with
    | none => rfl
    | some n => cases h
  | some n => cases b with
    | none => cases h
    | some m => rw [iv_inj h]
/-- the names that are the built-in ones still -/
structure Blt (mg : Str → Option Value) : Prop where
  len : mg "len" = none
  dict : mg "dict" = none
  tuple : mg "tuple" = none
  any : mg "any" = none
  range : mg "range" = none
  min : mg "min" = none
  max : mg "max" = none
  enumerate : mg "enumerate" = none
  list : mg "list" = none
  reversed : mg "reversed" = none
  sum : mg "sum" = none
  abs : mg "abs" = none
  int : mg "int" = none
end G3

set_option Elab.async false
set_option linter.all false
set_option maxRecDepth 100000
set_option maxHeartbeats 2000000
namespace G3
open PySem PySem.Spec PyProof.Rows L2
section
variable {P : Program} {w : World} {K : PySem.W.Frag} {mg : Str → Option Value} {base : Heap} {T : TbA}
theorem SqT.upd_ne2 {K : PySem.W.Frag} {H : Hp} {a p : Addr} {o : HO} {xs : List V} (h : SqT K H a xs) (h1 : ∀ ys, H p ≠ some (.tup ys)) (h2 : ∀ ys u, H p ≠ some (.frz u ys)) : SqT K (upd H p o) a xs := by
  rcases h with (h | ⟨ob, h⟩) | h
  · exact .inl (.inl (by rw [upd_ne (fun z => by rw [z] at h; exact h1 _ h)]; exact h))
  · exact .inl (.inr ⟨ob, by rw [upd_ne (fun z => by rw [z] at h; exact h2 _ _ h)]; exact h⟩)
  · exact .inr h
theorem genFree {n : Nat} {sc scope : Scope} (h : (scope.names.all fun y => !decide (y.2 = .free) || decide (sc.names.lookup y.1 = some .cell)) = true) : ∀ y ∈ scope.names, y.2 = .free → ∃ c, (cellsFrom n sc.names []).lookup y.1 = some c := fun y hy e => by
  have h1 := List.all_eq_true.mp h y hy
  simp only [Bool.or_eq_true, Bool.not_eq_true', decide_eq_false_iff_not, decide_eq_true_eq] at h1
  rcases h1 with h1 | h1
  · exact absurd e h1
  · exact Option.isSome_iff_exists.mp (PySem.W.cellsFrom_some _ _ _ (.inl h1))
def ckv (l : List Nat) : List (Key × V) := l.map fun (t : Nat) => ((Sum.inl (t : Int) : Key), V.int 1)
theorem ckv_paired {K : PySem.W.Frag} {H : Hp} : ∀ {ts : List Addr} {l : List Nat}, Paired (fun p n => SqT K H p [iv n, .int 1]) ts l → Paired (fun p (kv : Key × V) => SqT K H p [kV kv.1, kv.2]) ts (ckv l)
  | _, _, .nil => .nil
  | _, _, .cons h t => .cons h (ckv_paired t)
/-! ### check_list -/
def spCheck (K : PySem.W.Frag) (T : TbA) : Sp := fun vs H Q _ => ∃ (o : Addr) (l : List Nat) (m : Nat), vs = [.ref o, iv m] ∧ SqT K H o (l.map iv) ∧ l.Nodup ∧ (∀ t ∈ l, t < m) ∧ l.length ≤ 1000 ∧ Tb T H ∧
  ∀ H', Xo T nM H H' → Q (.ref o) H'
theorem scCheck : FnScope ["order", "many", "found", "one"] ["order", "many"] (defScope sCheck) := ⟨rfl, rfl, rfl, by decide +kernel, rfl, by decide +kernel, by decide +kernel⟩
theorem elt_check {X : Cx} {pa : Addr} {scope : Scope} {σ : L2.St} {H1 : Hp} {l : List Nat} {m j kk : Nat} {p0 p1 p2 p3 p4 : Pos} (hk : scope.kind = .function) (hl : scope.names.lookup ("many" : Str) = some .free) (hx : scope.names.lookup ("one" : Str) = some .local) (hN : X.N[j]? = some "many") (hv : σ[j]? = some (some (iv m))) (hy : X.env.scope.names.lookup ("many" : Str) = some .cell)
    (hlt : ∀ t ∈ l, t < m) : EltF X pa scope "one" (.UnaryOp .Not (.Compare (.Constant (.int 0) kk p0) [.LtE, .Lt] [.Name "one" p1, .Name "many" p2] p3) p4) σ H1 (l.map iv) := by
  intro pins s1 cenv s2 A' E' i xv v m2 G hA hi rx hn hm
  rw [List.getElem?_map] at hi
  cases el : l[i]? with
  | none => rw [el] at hi; cases hi
  | some t =>
    rw [el] at hi
    obtain rfl : iv t = xv := Option.some.inj hi
    obtain ⟨u, rfl⟩ := rx
    have htm : t < m := hlt t (List.mem_of_getElem? el)
    refine UnaryOp_ (Compare_chain (wpAny_Constant_int (chain_link ?_)) (by with_unfolding_all rfl))
    have G2 := G.up (s3 := { s2 with toks := s2.toks + 1 }) fun _ _ e => e
    refine G2.own hk hx hn hm (PyProof.Rows.le_int (wpAny_truthy_bool ?_)) (by decide)
    rw [decide_eq_true (Int.natCast_nonneg t)]
    refine ite_tt (chain_last ?_)
    refine G2.free hk hl hN hv hy (fun u2 r2 => ?_)
    obtain ⟨u3, rfl⟩ := r2
    refine PyProof.Rows.lt_int (not_of (wpAny_truthy_bool ?_))
    rw [decide_eq_true (by omega)]
    exact ⟨rfl, _, _, rfl, fun _ _ e => e⟩
theorem len_merge : ∀ (kvs : List (Key × V)), (kvs.map (·.1)).Nodup → ∀ acc : List (Key × V), (∀ k ∈ kvs.map (·.1), k ∉ acc.map (·.1)) → (mergeK acc kvs).length = acc.length + kvs.length
  | [], _, acc, _ => rfl
  | p :: kvs, hn, acc, hd => by
    rw [List.map_cons] at hn hd
    obtain ⟨n1, n2⟩ := List.nodup_cons.mp hn
    have e : valV acc p.1 = none := by
      cases e : valV acc p.1 with
      | none => rfl
      | some v => exact absurd (valV_in e) (hd _ List.mem_cons_self)
    show (mergeK (putK acc p.1 p.2) kvs).length = _
    rw [len_merge kvs n2 _ fun k hk hm => ?_, putK_new _ e, List.length_append, List.length_singleton, List.length_cons]
    · omega
    · rw [putK_new _ e, List.map_append, List.mem_append] at hm
      rcases hm with hm | hm
      · exact hd k (List.mem_cons_of_mem _ hk) hm
      · have : k = p.1 := by simpa using hm
        exact n1 (this ▸ hk)
theorem ok_check {f c : Addr} {fd : FuncData} (F : Fun K "check_list" "check_list" sCheck f fd) (hc : fd.code = .ref c) (B : Blt mg) (TB : GxR.TabB base mg c T.gl) (hne : T.gl ≠ T.lp) : FnOk P w K mg base CX0 1 f fd ["order", "many"] (spCheck K T) := by
  refine Fun.okC F hc scCheck (fun vs H Q E h => ?_) (fun A outer s H vs Q E hr h => ?_)
  · obtain ⟨o, l, m, rfl, _⟩ := h
    rfl
  · obtain ⟨o, l, m, rfl, hL, hnd, hlt, hz, hT, q⟩ := h
    refine ⟨_, pss_cons (ps_set (i := 2) scCheck.nd rfl (Or.inl rfl) (pe_callTy call_tupleT (by rfl) B.tuple (by decide +kernel) (pa_cons (pv 0) pa_nil)))
      (pss_cons (ps_if (pt_cmpR op_ne (pe_callB call_lenD (by rfl) B.len PySem.boot_len (pa_cons (pe_callTy (call_dictP rfl) (by rfl) B.dict (by decide +kernel)
          (pa_cons (pe_lc (own := [("one", 3)]) (g := gName 3) (tt := tYes) rfl scCheck.nd (pi_tup (pv 2)) (blkOk_by (N := ["order", "many", "found", "one"]) (sc := defScope sCheck) (by decide +kernel)) (fun _ _ _ _ _ => pg_name (i := 3) scCheck.nd rfl (Or.inl rfl)) (fun _ _ _ _ _ => pts_nil)
            (fun _ _ _ _ _ => pe_tup (pa_cons (pv 3) (pa_cons pe_int pa_nil)))) pa_nil)) pa_nil))
          (pe_callB call_len_seq (by rfl) B.len PySem.boot_len (pa_cons (pv 2) pa_nil)) (nomark _)) (pss_one ps_never) pss_nil)
      (pss_cons (ps_if (pt_val (pe_anyF hr (by rfl) B.any TB rfl ⟨rfl, rfl, by decide +kernel, rfl, rfl, genFree (by decide +kernel)⟩ (pv 2) (by intro _; rfl))) (pss_one ps_never) pss_nil)
      (pss_one (ps_ret (pv 2))))), ?_⟩
    refine ⟨_, rfl, o, _, rfl, hL, ?_⟩
    refine ⟨_, rfl, o, rfl, ⟨_, hL⟩, fun D hD => lc_tup (K := K) (a := o) (xs := l.map iv) (fun i H' => ∃ ts : List Addr, Xo T nM H H' ∧ H' D = some (.lst (ts.map V.ref)) ∧ Paired (fun p n => SqT K H' p [iv n, .int 1]) ts (l.take i))
      ⟨[], Xo.refl.new hD, upd_same, .nil⟩ (fun i H' _ ⟨ts, x, _⟩ => x.sT hL) (fun i x H' hi ⟨ts, hx, hDt, hp⟩ => ?_) (fun H' ⟨ts, hx, hDt, hp⟩ => ?_)⟩
    · rw [List.getElem?_map] at hi
      cases el : l[i]? with
      | none => rw [el] at hi; cases hi
      | some t =>
        rw [el] at hi
        obtain rfl : iv t = x := Option.some.inj hi
        have hil : i < l.length := (List.getElem?_eq_some_iff.mp el).1
        have htl : ts.length = i := by
          rw [Paired.length hp, List.length_take]
          omega
        refine ⟨rfl, ?_⟩
        refine ⟨_, rfl, by show 2 ≤ sizeLine; decide, fun p hp0 => ?_⟩
        have hpD : p ≠ D := Ne.symm (ne_of_none hDt hp0)
        refine ⟨ts.map V.ref, by rw [upd_ne hpD.symm]; exact hDt, by rw [List.length_map, htl]; exact small1000 (by omega), ts ++ [p], ?_, ?_, ?_⟩
        · exact (hx.new hp0).mut (.inl hD) (by rw [upd_ne hpD.symm, hDt]; exact Soft.lst)
        · rw [upd_same, List.map_append]
          rfl
        · rw [List.take_add_one, el]
          refine (Paired.mapP hp fun a b z => ?_).snoc ?_
          · exact SqT.upd_ne2 (SqT.upd_new z hp0) (by rw [upd_ne hpD.symm, hDt]; exact fun ys z => by cases z) (by rw [upd_ne hpD.symm, hDt]; exact fun ys o z => by cases z)
          · exact .inl (.inl (by rw [upd_ne hpD, upd_same]))
    · rw [List.take_of_length_le (by simp)] at hp
      have hpk := ckv_paired hp
      refine ⟨D, ts, _, rfl, SqL.of hDt, hpk, fun d hd => ?_⟩
      refine ⟨d, _, rfl, upd_same, ?_⟩
      have hx2 := hx.new (o := .dK (mergeK [] (ckv l))) hd
      refine ⟨_, rfl, o, _, rfl, .inr (hx2.sT hL), rfl, _, rfl, ?_⟩
      refine iteNS ?_ ?_
      · rw [len_merge _ ?_ [] (fun k _ h => by cases h)]
        · simp [ckv]
        · unfold ckv
          rw [List.map_map, List.nodup_iff_pairwise_ne, List.pairwise_map]
          refine List.Pairwise.imp (fun {a b} hab z => hab ?_) (List.nodup_iff_pairwise_ne.mp hnd)
          have : (a : Int) = (b : Int) := Sum.inl.inj z
          omega
      · refine ⟨_, rfl, o, _, rfl, .inr (hx2.sT hL), (hx2.tb hT).gl, elt_check (j := 1) rfl rfl rfl rfl rfl rfl hlt, fun H2 hg => ⟨_, rfl, iteF ?_⟩⟩
        exact ⟨_, rfl, q _ (hx2.trans (.gen hg (hx2.tb hT).gl hne))⟩
end
end G3

set_option Elab.async false
set_option linter.all false
set_option maxRecDepth 100000
set_option maxHeartbeats 2000000
namespace G3
open PySem PySem.Spec PyProof.Rows L2
/-! ### lists told by place -/
def fl (f : Nat → V) (n : Nat) : List V := (List.range n).map f
theorem fl_len (f : Nat → V) (n : Nat) : (fl f n).length = n := by
  unfold fl
  rw [List.length_map, List.length_range]
theorem fl_get {f : Nat → V} {n k : Nat} (h : k < n) : (fl f n)[k]? = some (f k) := by
  unfold fl
  rw [List.getElem?_map, List.getElem?_range h]
  rfl
theorem fl_at {f : Nat → V} {n k : Nat} (h : k < n) : atI (fl f n) (k : Int) = some (f k) := atI_nat (fl_get h)
theorem fl_ix {f : Nat → V} {n k : Nat} (h : k < n) : ixN (fl f n).length (k : Int) = some k := by
  rw [fl_len]
  unfold ixN
  rw [if_pos (by omega), if_pos (by omega)]
  simp
theorem fl_set {f : Nat → V} {n k : Nat} {x : V} (h : k < n) : (fl f n).set k x = fl (fset f k x) n := by
  refine List.ext_getElem? fun i => ?_
  rw [List.getElem?_set]
  by_cases hi : i < n
  · rw [fl_get (f := fset f k x) hi]
    by_cases e : k = i
    · subst e
      rw [if_pos rfl, if_pos (by rw [fl_len]; exact h), fset_same]
    · rw [if_neg e, fl_get hi, fset_ne (Ne.symm e)]
  · have n1 : ∀ g : Nat → V, (fl g n)[i]? = none := fun g => List.getElem?_eq_none (by rw [fl_len]; omega)
    rw [n1 (fset f k x)]
    by_cases e : k = i
    · omega
    · rw [if_neg e, n1]
theorem fl_congr {f g : Nat → V} {n : Nat} (h : ∀ i, i < n → f i = g i) : fl f n = fl g n := by
  unfold fl
  exact List.map_congr_left fun i hi => h i (List.mem_range.mp hi)
theorem fset_map {α : Type} {f : Nat → α} {k : Nat} {x : α} (g : α → V) : (fun j => g (fset f k x j)) = fset (fun j => g (f j)) k (g x) := by
  funext j
  unfold fset
  by_cases e : j = k
  · rw [if_pos e, if_pos e]
  · rw [if_neg e, if_neg e]
/-- an int or None -/
def bV : Option Int → V
  | none => .non
  | some i => .int i
/-- x is not among the ints -/
theorem inV_nats {x : Nat} {l : List Nat} : inV (iv x) (l.map iv) = decide (x ∈ l) := by
  induction l with
  | nil => rfl
  | cons a l ih =>
    have e : inV (iv x) ((a :: l).map iv) = (eqV (iv a) (iv x) || inV (iv x) (l.map iv)) := rfl
    rw [e, ih]
    have e2 : eqV (iv a) (iv x) = decide (a = x) := by
      show ((a : Int) == (x : Int)) = decide (a = x)
      by_cases h : a = x
      · rw [decide_eq_true h, h]
        simp
      · rw [decide_eq_false h]
        exact beq_eq_false_iff_ne.mpr fun z => h (by omega)
    rw [e2]
    by_cases h : a = x
    · simp [h]
    · have : x ≠ a := Ne.symm h
      simp [h, this]
theorem flat_nats (l : List Nat) : (l.map iv).all flatV = true := by
  rw [List.all_eq_true]
  intro v hv
  obtain ⟨n, _, rfl⟩ := List.mem_map.mp hv
  rfl
/-! ### xs[i] read for an operator in place -/
def rGetL (K : PySem.W.Frag) : V → V → Hp → VK → Prop := fun o i H Q => ∃ (p : Addr) (xs : List V) (k : Nat) (v : V), o = .ref p ∧ i = iv k ∧ SqL K H p xs ∧ xs[k]? = some v ∧ Q v H
theorem get_list {X : Cx} : PGet X (rGetL X.K) := by
  intro pins s σ H o i ov iv' Q I ro ri h
  obtain ⟨p, xs, k, v, rfl, rfl, hq, hk, q⟩ := h
  obtain rfl : ov = Value.ref p := ro
  obtain ⟨t, rfl⟩ := ri
  obtain ⟨its, rv, pl, hz⟩ := I.list hq
  obtain ⟨u, hu, ru⟩ := rv.get hk
  have hl : k < xs.length := (List.getElem?_eq_some_iff.mp hk).1
  have hn := line63
  exact wpAny_getItem_list pl.isList (Int.natCast_nonneg k) (by omega) (x := u) (by simpa using hu) ⟨v, H, I, ru, q⟩
/-! ### a Search -/
def flds (wide n : Nat) (ac al ar ao : Addr) : List (Str × V) := [("wide", iv wide), ("many", iv n), ("costs", .ref ac), ("left", .ref al), ("right", .ref ar), ("owner", .ref ao)]
structure TxS (K : PySem.W.Frag) (mg : Str → Option Value) (C : Addr) : Prop where
  cl : Cls K C
  nW : NoAttr K C "wide"
  nM : NoAttr K C "many"
  nC : NoAttr K C "costs"
  nL : NoAttr K C "left"
  nR : NoAttr K C "right"
  nO : NoAttr K C "owner"
  mgC : mg "Search" = some (.ref C)
structure SA (C : Addr) (H : Hp) (p dx ac al ar ao : Addr) (rs : List Addr) (wide n m : Nat) (c : Nat → Nat → Int) (u v : Nat → Int) (ow : Nat → Option Nat) : Prop where
  ob : H p = some (.ins C dx (flds wide n ac al ar ao))
  co : H ac = some (.lst (rs.map V.ref))
  rl : rs.length = n
  rw : ∀ i, i < n → ∃ r, rs[i]? = some r ∧ H r = some (.lst (fl (fun j => .int (c i j)) m))
  le : H al = some (.lst (fl (fun i => .int (u i)) n))
  ri : H ar = some (.lst (fl (fun j => .int (v j)) m))
  ow : H ao = some (.lst (fl (fun j => ov (ow j)) m))
  nlr : al ≠ ar
  nlo : al ≠ ao
  nro : ar ≠ ao
  ncl : ac ≠ al
  ncr : ac ≠ ar
  nco : ac ≠ ao
  nrs : ∀ r ∈ rs, r ≠ al ∧ r ≠ ar ∧ r ≠ ao
section
variable {C : Addr} {H H1 : Hp} {p dx ac al ar ao : Addr} {rs : List Addr} {wide n m : Nat} {c : Nat → Nat → Int} {u v u1 v1 : Nat → Int} {ow ow1 : Nat → Option Nat}
/-- what the object is made of -/
def SA.own (p ac al ar ao : Addr) (rs : List Addr) (b : Addr) : Prop := b = p ∨ b = ac ∨ b = al ∨ b = ar ∨ b = ao ∨ b ∈ rs
theorem own_ne {b b0 : Addr} (hn : ¬ SA.own p ac al ar ao rs b0) (hb : SA.own p ac al ar ao rs b) : b ≠ b0 := fun z => hn (by rw [← z]; exact hb)
theorem SA.keep (S : SA C H p dx ac al ar ao rs wide n m c u v ow) (k : ∀ b o, SA.own p ac al ar ao rs b → H b = some o → H1 b = some o) : SA C H1 p dx ac al ar ao rs wide n m c u v ow :=
  ⟨k _ _ (.inl rfl) S.ob, k _ _ (.inr (.inl rfl)) S.co, S.rl, fun i hi => let ⟨r, h1, h2⟩ := S.rw i hi; ⟨r, h1, k _ _ (.inr (.inr (.inr (.inr (.inr (List.mem_of_getElem? h1)))))) h2⟩, k _ _ (.inr (.inr (.inl rfl))) S.le, k _ _ (.inr (.inr (.inr (.inl rfl)))) S.ri, k _ _ (.inr (.inr (.inr (.inr (.inl rfl))))) S.ow,
    S.nlr, S.nlo, S.nro, S.ncl, S.ncr, S.nco, S.nrs⟩
theorem SA.pl (S : SA C H p dx ac al ar ao rs wide n m c u v ow) {b : Addr} {xs : List V} (h : H b = some (.lst xs)) : p ≠ b := ne_of S.ob h (by intro z; cases z)
theorem SA.setL (S : SA C H p dx ac al ar ao rs wide n m c u v ow) : SA C (upd H al (.lst (fl (fun i => .int (u1 i)) n))) p dx ac al ar ao rs wide n m c u1 v ow :=
  ⟨by rw [upd_ne (S.pl S.le)]; exact S.ob, by rw [upd_ne S.ncl]; exact S.co, S.rl, fun i hi => let ⟨r, h1, h2⟩ := S.rw i hi; ⟨r, h1, by rw [upd_ne (S.nrs r (List.mem_of_getElem? h1)).1]; exact h2⟩, upd_same, by rw [upd_ne S.nlr.symm]; exact S.ri, by rw [upd_ne S.nlo.symm]; exact S.ow,
    S.nlr, S.nlo, S.nro, S.ncl, S.ncr, S.nco, S.nrs⟩
theorem SA.setR (S : SA C H p dx ac al ar ao rs wide n m c u v ow) : SA C (upd H ar (.lst (fl (fun j => .int (v1 j)) m))) p dx ac al ar ao rs wide n m c u v1 ow :=
  ⟨by rw [upd_ne (S.pl S.ri)]; exact S.ob, by rw [upd_ne S.ncr]; exact S.co, S.rl, fun i hi => let ⟨r, h1, h2⟩ := S.rw i hi; ⟨r, h1, by rw [upd_ne (S.nrs r (List.mem_of_getElem? h1)).2.1]; exact h2⟩, by rw [upd_ne S.nlr]; exact S.le, upd_same, by rw [upd_ne S.nro.symm]; exact S.ow,
    S.nlr, S.nlo, S.nro, S.ncl, S.ncr, S.nco, S.nrs⟩
theorem SA.setO (S : SA C H p dx ac al ar ao rs wide n m c u v ow) : SA C (upd H ao (.lst (fl (fun j => ov (ow1 j)) m))) p dx ac al ar ao rs wide n m c u v ow1 :=
  ⟨by rw [upd_ne (S.pl S.ow)]; exact S.ob, by rw [upd_ne S.nco]; exact S.co, S.rl, fun i hi => let ⟨r, h1, h2⟩ := S.rw i hi; ⟨r, h1, by rw [upd_ne (S.nrs r (List.mem_of_getElem? h1)).2.2]; exact h2⟩, by rw [upd_ne S.nlo]; exact S.le, by rw [upd_ne S.nro]; exact S.ri, upd_same,
    S.nlr, S.nlo, S.nro, S.ncl, S.ncr, S.nco, S.nrs⟩
end
/-! ### look -/
structure LkA (C : Addr) (H : Hp) (p dx ac al ar ao us bs cs : Addr) (rs : List Addr) (wide n m : Nat) (c : Nat → Nat → Int) (u v : Nat → Int) (ow : Nat → Option Nat) (used : List Nat) (best : Nat → Option Int) (came : Nat → Option Nat) : Prop where
  sa : SA C H p dx ac al ar ao rs wide n m c u v ow
  hus : H us = some (.lst (used.map iv))
  hbs : H bs = some (.lst (fl (fun j => bV (best j)) m))
  hcs : H cs = some (.lst (fl (fun j => ov (came j)) m))
  nbc : bs ≠ cs
  nbu : us ≠ bs
  ncu : us ≠ cs
  nb : ¬ SA.own p ac al ar ao rs bs
  nc : ¬ SA.own p ac al ar ao rs cs
  nu : ¬ SA.own p ac al ar ao rs us
  sz : m ≤ 1000
section
variable {C : Addr} {H H1 : Hp} {p dx ac al ar ao us bs cs : Addr} {rs : List Addr} {wide n m : Nat} {c : Nat → Nat → Int} {u v u1 v1 : Nat → Int} {ow ow1 : Nat → Option Nat} {used : List Nat} {best best1 : Nat → Option Int} {came came1 : Nat → Option Nat}
theorem LkA.setB (L : LkA C H p dx ac al ar ao us bs cs rs wide n m c u v ow used best came) : LkA C (upd H bs (.lst (fl (fun j => bV (best1 j)) m))) p dx ac al ar ao us bs cs rs wide n m c u v ow used best1 came :=
  ⟨L.sa.keep fun b o hb h => by rw [upd_ne (own_ne L.nb hb)]; exact h, by rw [upd_ne L.nbu]; exact L.hus, upd_same, by rw [upd_ne L.nbc.symm]; exact L.hcs, L.nbc, L.nbu, L.ncu, L.nb, L.nc, L.nu, L.sz⟩
theorem LkA.setC (L : LkA C H p dx ac al ar ao us bs cs rs wide n m c u v ow used best came) : LkA C (upd H cs (.lst (fl (fun j => ov (came1 j)) m))) p dx ac al ar ao us bs cs rs wide n m c u v ow used best came1 :=
  ⟨L.sa.keep fun b o hb h => by rw [upd_ne (own_ne L.nc hb)]; exact h, by rw [upd_ne L.ncu]; exact L.hus, by rw [upd_ne L.nbc]; exact L.hbs, upd_same, L.nbc, L.nbu, L.ncu, L.nb, L.nc, L.nu, L.sz⟩
end
def spLook (C : Addr) (T : TbA) : Sp := fun vs H Q _ => ∃ (p dx ac al ar ao us bs cs : Addr) (rs : List Addr) (wide n m : Nat) (c : Nat → Nat → Int) (u v : Nat → Int) (ow : Nat → Option Nat) (used : List Nat) (best : Nat → Option Int) (came : Nat → Option Nat) (here : Nat) (col : Option Nat),
  vs = [.ref p, iv here, ov col, .ref us, .ref bs, .ref cs] ∧ LkA C H p dx ac al ar ao us bs cs rs wide n m c u v ow used best came ∧ here < n ∧
  ∀ H', Xo T (fun b => b = bs ∨ b = cs) H H' → LkA C H' p dx ac al ar ao us bs cs rs wide n m c u v ow used (lookB c u v used here best) (lookC c u v used here col best came) → Q .non H'
section
variable {P : Program} {w : World} {K : PySem.W.Frag} {mg : Str → Option Value} {base : Heap} {T : TbA}
theorem scLook : FnScope ["self", "here", "column", "used", "best", "came", "one", "cost"] ["self", "here", "column", "used", "best", "came"] (defScope sLook) := ⟨rfl, rfl, rfl, by decide +kernel, rfl, by decide +kernel, by decide +kernel⟩
theorem fset_step {α : Type} (f g : Nat → α) (i : Nat) : fset (fun j => if j < i then f j else g j) i (f i) = fun j => if j < i + 1 then f j else g j := by
  funext j
  unfold fset
  by_cases e : j = i
  · subst e
    rw [if_pos rfl, if_pos (by omega)]
  · rw [if_neg e]
    show (if j < i then f j else g j) = _
    by_cases h : j < i
    · rw [if_pos h, if_pos (by omega)]
    · rw [if_neg h, if_neg (by omega)]
theorem keep_step {α : Type} (f g : Nat → α) (i : Nat) (e : f i = g i) : (fun j => if j < i then f j else g j) = fun j => if j < i + 1 then f j else g j := by
  funext j
  by_cases h : j < i
  · rw [if_pos h, if_pos (by omega)]
  · rw [if_neg h]
    by_cases h2 : j = i
    · subst h2
      rw [if_pos (by omega), e]
    · rw [if_neg (by omega)]
theorem fl_step {α : Type} (g : α → V) (f h : Nat → α) {i m : Nat} (hi : i < m) {x : V} (e : g (f i) = x) : (fl (fun j => g (if j < i then f j else h j)) m).set i x = fl (fun j => g (if j < i + 1 then f j else h j)) m := by
  rw [fl_set hi, ← e, ← fset_map g, fset_step]
theorem ok_look {f C : Addr} {fd : FuncData} (F : Fun K "look" "Search.look" sLook f fd) (B : Blt mg) (X : TxS K mg C) : FnOk P w K mg base CX0 1 f fd ["self", "here", "column", "used", "best", "came"] (spLook C T) := by
  refine F.ok scLook (fun vs H Q E h => ?_) (fun cdv A outer s H vs Q E hr h => ?_)
  · obtain ⟨p, dx, ac, al, ar, ao, us, bs, cs, rs, wide, n, m, c, u, v, ow, used, best, came, here, col, rfl, _⟩ := h
    rfl
  · obtain ⟨p, dx, ac, al, ar, ao, us, bs, cs, rs, wide, n, m, c, u, v, ow, used, best, came, here, col, rfl, L, hh, q⟩ := h
    refine ⟨_, pss_one (ps_for PassesOwn.never rfl (pi_range1 (by rfl) B.range (pa_cons (pe_callB call_len_seq (by rfl) B.len PySem.boot_len (pa_cons (pe_fld (pv 0) rfl) pa_nil)) pa_nil)) (pg_name (i := 6) scLook.nd rfl (Or.inl rfl))
      (pss_one (ps_if (pt_cmpR op_notIn_seq (pv 6) (pv 3) (by rfl))
        (pss_cons (ps_set (i := 7) scLook.nd rfl (Or.inl rfl) (pe_op op_sub (pe_op op_sub (pe_ix ix_list (pe_ix ix_list (pe_fld (pv 0) rfl) (pv 1) (fun _ _ => rfl)) (pv 6) (fun _ _ => rfl)) (pe_ix ix_list (pe_fld (pv 0) rfl) (pv 1) (fun _ _ => rfl))) (pe_ix ix_list (pe_fld (pv 0) rfl) (pv 6) (fun _ _ => rfl))))
        (pss_one (ps_if (PW.pt (pw_or (pt_cmpR op_isN (pe_ix ix_list (pv 4) (pv 6) (fun _ _ => rfl)) pe_non (nomark _)) (pw_or1 (pt_cmpR op_lt (pv 7) (pe_ix ix_list (pv 4) (pv 6) (fun _ _ => rfl)) (nomark _)))))
          (pss_cons (ps_asg (pv 7) (pg_sub (pv 4) (pv 6) set_list)) (pss_one (ps_asg (pv 2) (pg_sub (pv 5) (pv 6) set_list)))) pss_nil))) pss_nil))), ?_⟩
    have hm := L.sz
    refine ⟨_, rfl, p, C, dx, _, _, rfl, L.sa.ob, X.cl, X.nO, rfl, ao, _, rfl, .inl (SqL.of L.sa.ow), ?_⟩
    rw [fl_len]
    refine ⟨_, rfl, by omega, by omega, for_range (lo := 0) (n := m) (fun i σ H' => ∃ z1 z2, σ = [some (.ref p), some (iv here), some (ov col), some (.ref us), some (.ref bs), some (.ref cs), z1, z2] ∧ Xo T (fun b => b = bs ∨ b = cs) H H' ∧
      LkA C H' p dx ac al ar ao us bs cs rs wide n m c u v ow used (fun j => if j < i then lookB c u v used here best j else best j) (fun j => if j < i then lookC c u v used here col best came j else came j))
      ⟨none, none, rfl, Xo.refl, by simpa using L⟩ (fun i σ H' hi ⟨z1, z2, hσ, hx, L'⟩ => ?_) (fun σ H' ⟨z1, z2, hσ, hx, L'⟩ => ?_)⟩
    · subst hσ
      refine ⟨_, rfl, _, rfl, us, _, rfl, .inl (SqL.of L'.hus), rfl, flat_nats _, _, rfl, ?_⟩
      rw [Int.zero_add]
      show if (!inV (iv i) (used.map iv)) = true then _ else _
      rw [inV_nats]
      have S := L'.sa
      by_cases hu : i ∈ used
      · rw [decide_eq_true hu]
        refine iteF ?_
        refine ⟨some (iv i), z2, rfl, hx, ?_⟩
        rw [← keep_step (lookB c u v used here best) best i (by unfold lookB; rw [if_pos hu]), ← keep_step (lookC c u v used here col best came) came i (by unfold lookC; rw [if_pos hu])]
        exact L'
      · rw [decide_eq_false hu]
        refine iteT ?_
        obtain ⟨r, hr1, hr2⟩ := S.rw here hh
        refine ⟨_, rfl, p, C, dx, _, _, rfl, S.ob, X.cl, X.nC, rfl, _, rfl, ac, _, _, .ref r, rfl, rfl, SqL.of S.co, atI_nat (by rw [List.getElem?_map, hr1]; rfl), _, rfl, r, _, _, _, rfl, rfl, SqL.of hr2, fl_at hi,
          _, rfl, p, C, dx, _, _, rfl, S.ob, X.cl, X.nL, rfl, _, rfl, al, _, _, _, rfl, rfl, SqL.of S.le, fl_at hh, _, _, rfl, rfl,
          _, rfl, p, C, dx, _, _, rfl, S.ob, X.cl, X.nR, rfl, _, rfl, ar, _, _, _, rfl, rfl, SqL.of S.ri, fl_at hi, _, _, rfl, rfl, ?_⟩
        refine ⟨_, rfl, _, rfl, bs, _, _, _, rfl, rfl, SqL.of L'.hbs, fl_at hi, rfl, _, rfl, ?_⟩
        cases hb : best i with
        | none =>
          dsimp only
          rw [if_neg (Nat.lt_irrefl i)]
          refine iteT (iteT ?_)
          refine ⟨_, rfl, _, rfl, _, rfl, bs, _, _, _, rfl, rfl, L'.hbs, fl_ix hi, _, rfl, _, rfl, _, rfl, cs, _, _, _, rfl, rfl, (by rw [upd_ne L.nbc.symm]; exact L'.hcs), fl_ix hi, ?_⟩
          have eB : (fl (fun j => bV (if j < i then lookB c u v used here best j else best j)) m).set i (V.int (c here i - u here - v i)) = fl (fun j => bV (if j < i + 1 then lookB c u v used here best j else best j)) m :=
            fl_step bV _ _ hi (by unfold lookB; rw [if_neg hu, hb]; rfl)
          have eC : (fl (fun j => ov (if j < i then lookC c u v used here col best came j else came j)) m).set i (ov col) = fl (fun j => ov (if j < i + 1 then lookC c u v used here col best came j else came j)) m :=
            fl_step ov _ _ hi (by unfold lookC; rw [if_neg hu, hb])
          rw [eB, eC]
          exact ⟨_, _, rfl, (hx.mut (.inr (.inl rfl)) (by rw [L'.hbs]; exact Soft.lst)).mut (.inr (.inr rfl)) (by rw [upd_ne L.nbc.symm, L'.hcs]; exact Soft.lst), L'.setB.setC⟩
        | some b =>
          dsimp only
          rw [if_neg (Nat.lt_irrefl i)]
          refine iteF ?_
          refine ⟨_, rfl, _, rfl, _, rfl, bs, _, _, _, rfl, rfl, SqL.of L'.hbs, fl_at hi, c here i - u here - v i, b, rfl, by rw [if_neg (Nat.lt_irrefl i), hb]; rfl, _, rfl, ?_⟩
          refine ite2 (fun hlt => ?_) (fun hlt => ?_)
          · have hlt : sl c u v here i < b := of_decide_eq_true hlt
            refine ⟨_, rfl, _, rfl, _, rfl, bs, _, _, _, rfl, rfl, L'.hbs, fl_ix hi, _, rfl, _, rfl, _, rfl, cs, _, _, _, rfl, rfl, (by rw [upd_ne L.nbc.symm]; exact L'.hcs), fl_ix hi, ?_⟩
            have eB : (fl (fun j => bV (if j < i then lookB c u v used here best j else best j)) m).set i (V.int (c here i - u here - v i)) = fl (fun j => bV (if j < i + 1 then lookB c u v used here best j else best j)) m :=
              fl_step bV _ _ hi (by unfold lookB; rw [if_neg hu, hb]; show bV (if sl c u v here i < b then _ else _) = _; rw [if_pos hlt]; rfl)
            have eC : (fl (fun j => ov (if j < i then lookC c u v used here col best came j else came j)) m).set i (ov col) = fl (fun j => ov (if j < i + 1 then lookC c u v used here col best came j else came j)) m :=
              fl_step ov _ _ hi (by unfold lookC; rw [if_neg hu, hb]; show ov (if sl c u v here i < b then _ else _) = _; rw [if_pos hlt])
            rw [eB, eC]
            exact ⟨_, _, rfl, (hx.mut (.inr (.inl rfl)) (by rw [L'.hbs]; exact Soft.lst)).mut (.inr (.inr rfl)) (by rw [upd_ne L.nbc.symm, L'.hcs]; exact Soft.lst), L'.setB.setC⟩
          · have hlt : ¬ sl c u v here i < b := fun z => hlt (decide_eq_true z)
            refine ⟨_, _, rfl, hx, ?_⟩
            rw [← keep_step (lookB c u v used here best) best i (by unfold lookB; rw [if_neg hu, hb]; show (if sl c u v here i < b then _ else _) = _; rw [if_neg hlt]), ← keep_step (lookC c u v used here col best came) came i (by unfold lookC; rw [if_neg hu, hb]; show (if sl c u v here i < b then _ else _) = _; rw [if_neg hlt])]
            exact L'
    · refine q H' hx ?_
      have e1 : fl (fun j => bV (if j < m then lookB c u v used here best j else best j)) m = fl (fun j => bV (lookB c u v used here best j)) m := fl_congr fun j hj => by rw [if_pos hj]
      have e2 : fl (fun j => ov (if j < m then lookC c u v used here col best came j else came j)) m = fl (fun j => ov (lookC c u v used here col best came j)) m := fl_congr fun j hj => by rw [if_pos hj]
      exact ⟨L'.sa, L'.hus, by rw [← e1]; exact L'.hbs, by rw [← e2]; exact L'.hcs, L.nbc, L.nbu, L.ncu, L.nb, L.nc, L.nu, hm⟩
end
end G3

set_option Elab.async false
set_option linter.all false
set_option maxRecDepth 100000
set_option maxHeartbeats 2000000
namespace G3
open PySem PySem.Spec PyProof.Rows L2
/-! ### shift -/
def downB (used : List Nat) (best : Nat → Option Int) (d : Int) (j : Nat) : Option Int := if j ∈ used then best j else (best j).map fun b => b - d
def spShift (C : Addr) (T : TbA) : Sp := fun vs H Q _ => ∃ (p dx ac al ar ao us bs cs : Addr) (rs : List Addr) (wide n m : Nat) (c : Nat → Nat → Int) (u v : Nat → Int) (ow : Nat → Option Nat) (used os : List Nat) (best : Nat → Option Int) (came : Nat → Option Nat) (row : Nat) (d : Int),
  vs = [.ref p, iv row, .ref us, .ref bs, .int d] ∧ LkA C H p dx ac al ar ao us bs cs rs wide n m c u v ow used best came ∧ row < n ∧ Paired (fun k i => k < m ∧ i < n ∧ ow k = some i) used os ∧
  ∀ H', Xo T (fun b => b = al ∨ b = ar ∨ b = bs) H H' → LkA C H' p dx ac al ar ao us bs cs rs wide n m c (upAll u (row :: os) d) (upAll v used (-d)) ow used (downB used best d) came → Q .non H'
theorem paired_get {α β : Type} {R : α → β → Prop} : ∀ {l : List α} {r : List β}, Paired R l r → ∀ {i : Nat} {a : α}, l[i]? = some a → ∃ b, r[i]? = some b ∧ R a b
  | _, _, .nil, i, a, h => by simp at h
  | _, _, .cons h t, 0, a, e => by
    have : _ = a := Option.some.inj e
    subst this
    exact ⟨_, rfl, h⟩
  | _, _, .cons h t, i + 1, a, e => by
    obtain ⟨b, h1, h2⟩ := paired_get t (i := i) (a := a) (by simpa using e)
    exact ⟨b, by simpa using h1, h2⟩
section
variable {C : Addr} {H H1 : Hp} {p dx ac al ar ao us bs cs : Addr} {rs : List Addr} {wide n m : Nat} {c : Nat → Nat → Int} {u v u1 v1 : Nat → Int} {ow ow1 : Nat → Option Nat} {used : List Nat} {best best1 : Nat → Option Int} {came came1 : Nat → Option Nat}
theorem LkA.setL (L : LkA C H p dx ac al ar ao us bs cs rs wide n m c u v ow used best came) : LkA C (upd H al (.lst (fl (fun i => .int (u1 i)) n))) p dx ac al ar ao us bs cs rs wide n m c u1 v ow used best came :=
  have o : SA.own p ac al ar ao rs al := .inr (.inr (.inl rfl))
  ⟨L.sa.setL, by rw [upd_ne (own_ne L.nu o).symm]; exact L.hus, by rw [upd_ne (own_ne L.nb o).symm]; exact L.hbs, by rw [upd_ne (own_ne L.nc o).symm]; exact L.hcs, L.nbc, L.nbu, L.ncu, L.nb, L.nc, L.nu, L.sz⟩
theorem LkA.setR (L : LkA C H p dx ac al ar ao us bs cs rs wide n m c u v ow used best came) : LkA C (upd H ar (.lst (fl (fun i => .int (v1 i)) m))) p dx ac al ar ao us bs cs rs wide n m c u v1 ow used best came :=
  have o : SA.own p ac al ar ao rs ar := .inr (.inr (.inr (.inl rfl)))
  ⟨L.sa.setR, by rw [upd_ne (own_ne L.nu o).symm]; exact L.hus, by rw [upd_ne (own_ne L.nb o).symm]; exact L.hbs, by rw [upd_ne (own_ne L.nc o).symm]; exact L.hcs, L.nbc, L.nbu, L.ncu, L.nb, L.nc, L.nu, L.sz⟩
end
section
variable {P : Program} {w : World} {K : PySem.W.Frag} {mg : Str → Option Value} {base : Heap} {T : TbA}
theorem scShift : FnScope ["self", "row", "used", "best", "step", "one"] ["self", "row", "used", "best", "step"] (defScope sShift) := ⟨rfl, rfl, rfl, by decide +kernel, rfl, by decide +kernel, by decide +kernel⟩
theorem fl_up {f : Nat → Int} {n k : Nat} {x : Int} (h : k < n) : (fl (fun i => V.int (f i)) n).set k (V.int x) = fl (fun i => V.int (fset f k x i)) n := by
  rw [fl_set h, ← fset_map (fun i => V.int i)]
theorem ok_shift {f C : Addr} {fd : FuncData} (F : Fun K "shift" "Search.shift" sShift f fd) (B : Blt mg) (X : TxS K mg C) : FnOk P w K mg base CX0 1 f fd ["self", "row", "used", "best", "step"] (spShift C T) := by
  refine F.ok scShift (fun vs H Q E h => ?_) (fun cdv A outer s H vs Q E hr h => ?_)
  · obtain ⟨p, dx, ac, al, ar, ao, us, bs, cs, rs, wide, n, m, c, u, v, ow, used, os, best, came, row, d, rfl, _⟩ := h
    rfl
  · obtain ⟨p, dx, ac, al, ar, ao, us, bs, cs, rs, wide, n, m, c, u, v, ow, used, os, best, came, row, d, rfl, L, hrow, hpo, q⟩ := h
    refine ⟨_, pss_cons (ps_augS (pe_fld (pv 0) rfl) (pv 1) get_list (pv 4) ip_add set_list)
      (pss_cons (ps_for PassesOwn.never rfl (pi_list (pv 2)) (pg_name (i := 5) scShift.nd rfl (Or.inl rfl))
        (pss_cons (ps_augS (pe_fld (pv 0) rfl) (pe_ix ix_list (pe_fld (pv 0) rfl) (pv 5) (fun _ _ => rfl)) get_list (pv 4) ip_add set_list)
        (pss_one (ps_augS (pe_fld (pv 0) rfl) (pv 5) get_list (pv 4) ip_sub set_list))))
      (pss_one (ps_for PassesOwn.never rfl (pi_range1 (by rfl) B.range (pa_cons (pe_callB call_len_seq (by rfl) B.len PySem.boot_len (pa_cons (pv 3) pa_nil)) pa_nil)) (pg_name (i := 5) scShift.nd rfl (Or.inl rfl))
        (pss_one (ps_if (PW.pt (pw_and (pt_cmpR op_notIn_seq (pv 5) (pv 2) (by rfl)) (pw_and1 (pt_cmpR op_notN (pe_ix ix_list (pv 3) (pv 5) (fun _ _ => rfl)) pe_non (nomark _)))))
          (pss_one (ps_augS (pv 3) (pv 5) get_list (pv 4) ip_sub set_list)) pss_nil))))), ?_⟩
    have hm := L.sz
    have S := L.sa
    refine ⟨_, rfl, p, C, dx, _, _, rfl, S.ob, X.cl, X.nL, rfl, _, rfl, al, _, row, _, rfl, rfl, SqL.of S.le, fl_get hrow, _, rfl, _, _, rfl, rfl, al, _, _, _, rfl, rfl, S.le, fl_ix hrow, ?_⟩
    rw [fl_up hrow]
    have L1 := L.setL (u1 := fset u row (u row + d))
    have x1 : Xo T (fun b => b = al ∨ b = ar ∨ b = bs) H (upd H al (.lst (fl (fun i => .int (fset u row (u row + d) i)) n))) := Xo.refl.mut (.inr (.inl rfl)) (by rw [S.le]; exact Soft.lst)
    generalize upd H al (.lst (fl (fun i => .int (fset u row (u row + d) i)) n)) = Ha at L1 x1 ⊢
    refine ⟨_, rfl, us, rfl, ⟨_, SqL.of L1.hus⟩, for_list (K := K) (a := us) (xs := used.map iv) (fun i σ H' => ∃ z, σ = [some (.ref p), some (iv row), some (.ref us), some (.ref bs), some (.int d), z] ∧ Xo T (fun b => b = al ∨ b = ar ∨ b = bs) H H' ∧
      LkA C H' p dx ac al ar ao us bs cs rs wide n m c (upAll u (row :: os.take i) d) (upAll v (used.take i) (-d)) ow used best came)
      ⟨none, rfl, x1, L1⟩ (fun i σ H' _ ⟨_, _, _, L'⟩ => SqL.of L'.hus) (fun i x σ H' hi ⟨z, hσ, hx, L'⟩ => ?_) (fun σ H' ⟨z, hσ, hx, L'⟩ => ?_)⟩
    · subst hσ
      rw [List.getElem?_map] at hi
      cases ek : used[i]? with
      | none => rw [ek] at hi; cases hi
      | some k =>
        rw [ek] at hi
        obtain rfl : iv k = x := Option.some.inj hi
        obtain ⟨j, ej, hk, hj, hkj⟩ := paired_get hpo ek
        have S' := L'.sa
        refine ⟨_, rfl, p, C, dx, _, _, rfl, S'.ob, X.cl, X.nL, rfl, _, rfl, p, C, dx, _, _, rfl, S'.ob, X.cl, X.nO, rfl, _, rfl, ao, _, _, _, rfl, rfl, SqL.of S'.ow, fl_at hk,
          al, _, j, _, rfl, (by show ov (ow k) = iv j; rw [hkj]; rfl), SqL.of S'.le, fl_get hj, _, rfl, _, _, rfl, rfl, al, _, (j : Int), _, rfl, (by show ov (ow k) = iv j; rw [hkj]; rfl), S'.le, fl_ix hj, ?_⟩
        rw [fl_up hj]
        have L2 := L'.setL (u1 := fset (upAll u (row :: os.take i) d) j (upAll u (row :: os.take i) d j + d))
        have x2 := hx.mut (a := al) (o := .lst (fl (fun i' => .int (fset (upAll u (row :: os.take i) d) j (upAll u (row :: os.take i) d j + d) i')) n)) (.inr (.inl rfl)) (by rw [S'.le]; exact Soft.lst)
        have eU : fset (upAll u (row :: os.take i) d) j (upAll u (row :: os.take i) d j + d) = upAll u (row :: os.take (i + 1)) d := by
          rw [← upAll_snoc, List.take_add_one, ej]
          rfl
        have S2 := L2.sa
        refine ⟨_, rfl, p, C, dx, _, _, rfl, S2.ob, X.cl, X.nR, rfl, _, rfl, ar, _, k, _, rfl, rfl, SqL.of S2.ri, fl_get hk, _, rfl, _, _, rfl, rfl, ar, _, _, _, rfl, rfl, S2.ri, fl_ix hk, ?_⟩
        rw [fl_up hk]
        have L3 := L2.setR (v1 := fset (upAll v (used.take i) (-d)) k (upAll v (used.take i) (-d) k - d))
        have eV : fset (upAll v (used.take i) (-d)) k (upAll v (used.take i) (-d) k - d) = upAll v (used.take (i + 1)) (-d) := by
          rw [Int.sub_eq_add_neg, ← upAll_snoc, List.take_add_one, ek]
          rfl
        refine ⟨_, rfl, x2.mut (.inr (.inr (.inl rfl))) (by rw [S2.ri]; exact Soft.lst), ?_⟩
        rw [← eU, ← eV]
        exact L3
    · subst hσ
      rw [List.length_map, List.take_of_length_le (Nat.le_refl _), List.take_of_length_le (Nat.le_of_eq (Paired.length hpo).symm)] at L'
      refine ⟨_, rfl, bs, _, rfl, .inl (SqL.of L'.hbs), ?_⟩
      rw [fl_len]
      refine ⟨_, rfl, by omega, by omega, for_range (lo := 0) (n := m) (fun i σ H' => ∃ z, σ = [some (.ref p), some (iv row), some (.ref us), some (.ref bs), some (.int d), z] ∧ Xo T (fun b => b = al ∨ b = ar ∨ b = bs) H H' ∧
        LkA C H' p dx ac al ar ao us bs cs rs wide n m c (upAll u (row :: os) d) (upAll v used (-d)) ow used (fun j => if j < i then downB used best d j else best j) came)
        ⟨z, rfl, hx, by simpa using L'⟩ (fun i σ H' hi ⟨z, hσ, hx, L'⟩ => ?_) (fun σ H' ⟨z, hσ, hx, L'⟩ => ?_)⟩
      · subst hσ
        refine ⟨_, rfl, _, rfl, us, _, rfl, .inl (SqL.of L'.hus), rfl, flat_nats _, _, rfl, ?_⟩
        rw [Int.zero_add]
        show (if (!inV (iv i) (used.map iv)) = true then _ else _)
        rw [inV_nats]
        by_cases hu : i ∈ used
        · rw [decide_eq_true hu]
          refine iteF (iteF ?_)
          refine ⟨some (iv i), rfl, hx, ?_⟩
          rw [← keep_step (downB used best d) best i (by unfold downB; rw [if_pos hu])]
          exact L'
        · rw [decide_eq_false hu]
          refine iteT ?_
          refine ⟨_, rfl, _, rfl, bs, _, _, _, rfl, rfl, SqL.of L'.hbs, fl_at hi, rfl, _, rfl, ?_⟩
          cases hb : best i with
          | none =>
            dsimp only
            rw [if_neg (Nat.lt_irrefl i)]
            refine iteF ?_
            refine ⟨some (iv i), rfl, hx, ?_⟩
            rw [← keep_step (downB used best d) best i (by unfold downB; rw [if_neg hu, hb]; rfl)]
            exact L'
          | some b =>
            dsimp only
            rw [if_neg (Nat.lt_irrefl i)]
            refine iteT ?_
            refine ⟨_, rfl, _, rfl, bs, _, i, _, rfl, rfl, SqL.of L'.hbs, fl_get hi, _, rfl, b, d, by rw [if_neg (Nat.lt_irrefl i), hb]; rfl, rfl, bs, _, _, _, rfl, rfl, L'.hbs, fl_ix hi, ?_⟩
            have eB : (fl (fun j => bV (if j < i then downB used best d j else best j)) m).set i (V.int (b - d)) = fl (fun j => bV (if j < i + 1 then downB used best d j else best j)) m :=
              fl_step bV _ _ hi (by unfold downB; rw [if_neg hu, hb]; rfl)
            rw [eB]
            exact ⟨some (iv i), rfl, hx.mut (.inr (.inr (.inr rfl))) (by rw [L'.hbs]; exact Soft.lst), L'.setB⟩
      · refine q H' hx ?_
        have e1 : fl (fun j => bV (if j < m then downB used best d j else best j)) m = fl (fun j => bV (downB used best d j)) m := fl_congr fun j hj => by rw [if_pos hj]
        exact ⟨L'.sa, L'.hus, by rw [← e1]; exact L'.hbs, L'.hcs, L.nbc, L.nbu, L.ncu, L.nb, L.nc, L.nu, hm⟩
end
end G3

set_option Elab.async false
set_option linter.all false
set_option maxRecDepth 100000
set_option maxHeartbeats 2000000
namespace G3
open PySem PySem.Spec PyProof.Rows L2
/-! ### a turn of the search, told by what look and shift leave -/
section
variable {row m n : Nat} {c : Nat → Nat → Int} {u v : Nat → Int} {ow : Nat → Option Nat} {used : List Nat} {here : Nat} {col : Option Nat} {best : Nat → Option Int} {came : Nat → Option Nat}
def ownsOf (ow : Nat → Option Nat) (used : List Nat) : List Nat := used.map fun k => (ow k).getD 0
theorem mem_owns (h : ∀ k, k ∈ used → ∃ i, ow k = some i) {i : Nat} : i ∈ ownsOf ow used ↔ ∃ k, k ∈ used ∧ ow k = some i := by
  unfold ownsOf
  rw [List.mem_map]
  constructor
  · rintro ⟨k, hk, rfl⟩
    obtain ⟨i, e⟩ := h k hk
    exact ⟨k, hk, by rw [e]; rfl⟩
  · rintro ⟨k, hk, e⟩
    exact ⟨k, hk, by rw [e]; rfl⟩
theorem owns_paired (h : ∀ k, k ∈ used → k < m ∧ ∃ i, i < n ∧ ow k = some i) : Paired (fun k i => k < m ∧ i < n ∧ ow k = some i) used (ownsOf ow used) := by
  induction used with
  | nil => exact .nil
  | cons a l ih =>
    obtain ⟨h1, i, h2, h3⟩ := h a List.mem_cons_self
    refine .cons ⟨h1, ?_, ?_⟩ (ih fun k hk => h k (List.mem_cons_of_mem _ hk))
    · show (ow a).getD 0 < n
      rw [h3]
      exact h2
    · show ow a = some ((ow a).getD 0)
      rw [h3]
      rfl
theorem owns_nodup (T : Tree row m c u v ow used came) (h : ∀ k, k ∈ used → ∃ i, ow k = some i) : (row :: ownsOf ow used).Nodup := by
  rw [List.nodup_cons]
  refine ⟨fun hm => ?_, ?_⟩
  · obtain ⟨k, hk, e⟩ := (mem_owns h).mp hm
    exact Nat.lt_irrefl _ (T.own row k (T.lt k hk) e)
  · have key : ∀ l : List Nat, l.Nodup → (∀ k, k ∈ l → k ∈ used) → (ownsOf ow l).Nodup := by
      intro l
      induction l with
      | nil => intro _ _; exact List.nodup_nil
      | cons a l ih =>
        intro nd s
        obtain ⟨n1, n2⟩ := List.nodup_cons.mp nd
        have s2 : ∀ k, k ∈ l → k ∈ used := fun k hk => s k (List.mem_cons_of_mem _ hk)
        obtain ⟨i, e⟩ := h a (s a List.mem_cons_self)
        show ((ow a).getD 0 :: ownsOf ow l).Nodup
        rw [e]
        refine List.nodup_cons.mpr ⟨fun hm => ?_, ih n2 s2⟩
        obtain ⟨k, hk, e2⟩ := (mem_owns fun k hk => h k (s2 k hk)).mp hm
        have := T.inj i a k (T.lt a (s a List.mem_cons_self)) (T.lt k (s2 k hk)) e e2
        exact n1 (this ▸ hk)
    exact key used T.nd fun _ hk => hk
theorem turn_of (h : Head row m c u v ow used here col best came) {k : Nat} {d : Int} (hk : k < m) (hu : k ∉ used) (hb : lookB c u v used here best k = some d) (hl : ∀ j b, j < m → j ∉ used → lookB c u v used here best j = some b → d ≤ b) :
    Turn row m c u v ow used (lookB c u v used here best) (upAll u (row :: ownsOf ow used) d) (upAll v used (-d)) (downB used (lookB c u v used here best) d) k d := by
  have nd := owns_nodup h.tree h.have_
  have mem : ∀ i, InT row ow used i ↔ i ∈ row :: ownsOf ow used := fun i => by
    rw [List.mem_cons, mem_owns h.have_]
    exact Iff.rfl
  refine ⟨hk, hu, hb, hl, fun i hi => ?_, fun i hi => ?_, fun j hj => ?_, fun j hj => ?_, fun j hj hu b e => ?_⟩
  · rw [upAll_at d _ u i nd, if_pos ((mem i).mp hi)]
  · rw [upAll_at d _ u i nd, if_neg fun z => hi ((mem i).mpr z)]
  · rw [upAll_at (-d) _ v j h.tree.nd, if_pos hj]
    omega
  · rw [upAll_at (-d) _ v j h.tree.nd, if_neg hj]
  · unfold downB
    rw [if_neg hu, e]
    rfl
theorem here_le (h : Head row m c u v ow used here col best came) : here ≤ row := by
  rcases h.last with ⟨_, e⟩ | ⟨k, hk, _, e⟩
  · omega
  · exact Nat.le_of_lt (h.tree.own here k (h.tree.lt k hk) e)
end
/-! ### while, the measure told by W -/
theorem while_ex {t : TT} {tb : TS} {D : Ends} {σ : L2.St} {H : Hp} (W : Nat → L2.St → Hp → Prop) (m0 : Nat) (h0 : W m0 σ H)
    (hs : ∀ m σ H, W m σ H → t σ H fun b H1 => if b = true then tb { D with nx := fun σ' H' => ∃ m', m' < m ∧ W m' σ' H', ct := fun σ' H' => ∃ m', m' < m ∧ W m' σ' H', bk := D.nx } σ H1 else D.nx σ H1)
    (mono : ∀ σ H Q Q', (∀ b H1, Q b H1 → Q' b H1) → t σ H Q → t σ H Q') : tWhile t tb D σ H := by
  refine ⟨W, ⟨m0, h0⟩, fun m σ H w => ?_⟩
  refine mono σ H _ _ (fun b H1 q => ?_) (hs m σ H w)
  cases b with
  | true => exact ⟨_, fun σ' H' p => p, q⟩
  | false => exact q
theorem flatten_one {α : Type} (x : α) (k : Nat) : (List.replicate k [x]).flatten = (List.range k).map fun _ => x := by
  induction k with
  | zero => rfl
  | succ k ih =>
    rw [List.replicate_succ, List.flatten_cons, ih, List.range_succ_eq_map, List.map_cons, List.map_map]
    rfl
theorem opens_len (m : Nat) (used : List Nat) : ((List.range m).filter fun j => !decide (j ∈ used)).length ≤ m := by
  have := List.length_filter_le (fun j => !decide (j ∈ used)) (List.range m)
  rw [List.length_range] at this
  exact this
section
variable {C : Addr} {H H1 : Hp} {p dx ac al ar ao us bs cs : Addr} {rs : List Addr} {wide n m : Nat} {c : Nat → Nat → Int} {u v u1 v1 : Nat → Int} {ow ow1 : Nat → Option Nat} {used used1 : List Nat} {best best1 : Nat → Option Int} {came came1 : Nat → Option Nat}
theorem LkA.setO (L : LkA C H p dx ac al ar ao us bs cs rs wide n m c u v ow used best came) : LkA C (upd H ao (.lst (fl (fun i => ov (ow1 i)) m))) p dx ac al ar ao us bs cs rs wide n m c u v ow1 used best came :=
  have o : SA.own p ac al ar ao rs ao := .inr (.inr (.inr (.inr (.inl rfl))))
  ⟨L.sa.setO, by rw [upd_ne (own_ne L.nu o).symm]; exact L.hus, by rw [upd_ne (own_ne L.nb o).symm]; exact L.hbs, by rw [upd_ne (own_ne L.nc o).symm]; exact L.hcs, L.nbc, L.nbu, L.ncu, L.nb, L.nc, L.nu, L.sz⟩
theorem LkA.setU (L : LkA C H p dx ac al ar ao us bs cs rs wide n m c u v ow used best came) : LkA C (upd H us (.lst (used1.map iv))) p dx ac al ar ao us bs cs rs wide n m c u v ow used1 best came :=
  ⟨L.sa.keep fun b o hb h => by rw [upd_ne (own_ne L.nu hb)]; exact h, upd_same, by rw [upd_ne L.nbu.symm]; exact L.hbs, by rw [upd_ne L.ncu.symm]; exact L.hcs, L.nbc, L.nbu, L.ncu, L.nb, L.nc, L.nu, L.sz⟩
theorem LkA.keep (L : LkA C H p dx ac al ar ao us bs cs rs wide n m c u v ow used best came) (k : ∀ b xs, H b = some (.lst xs) → H1 b = some (.lst xs)) (k2 : H1 p = H p) : LkA C H1 p dx ac al ar ao us bs cs rs wide n m c u v ow used best came := by
  have S := L.sa
  refine ⟨⟨by rw [k2]; exact S.ob, k _ _ S.co, S.rl, fun i hi => let ⟨r, h1, h2⟩ := S.rw i hi; ⟨r, h1, k _ _ h2⟩, k _ _ S.le, k _ _ S.ri, k _ _ S.ow, S.nlr, S.nlo, S.nro, S.ncl, S.ncr, S.nco, S.nrs⟩, k _ _ L.hus, k _ _ L.hbs, k _ _ L.hcs, L.nbc, L.nbu, L.ncu, L.nb, L.nc, L.nu, L.sz⟩
theorem LkA.new (L : LkA C H p dx ac al ar ao us bs cs rs wide n m c u v ow used best came) {a : Addr} {o : HO} (h : H a = none) : LkA C (upd H a o) p dx ac al ar ao us bs cs rs wide n m c u v ow used best came :=
  L.keep (fun b xs e => by rw [upd_ne (ne_of_none e h)]; exact e) (upd_ne (ne_of_none L.sa.ob h))
theorem LkA.other (L : LkA C H p dx ac al ar ao us bs cs rs wide n m c u v ow used best came) {a : Addr} {o : HO} (h : ¬ SA.own p ac al ar ao rs a) (h1 : us ≠ a) (h2 : bs ≠ a) (h3 : cs ≠ a) : LkA C (upd H a o) p dx ac al ar ao us bs cs rs wide n m c u v ow used best came :=
  ⟨L.sa.keep fun b o hb e => by rw [upd_ne (own_ne h hb)]; exact e, by rw [upd_ne h1]; exact L.hus, by rw [upd_ne h2]; exact L.hbs, by rw [upd_ne h3]; exact L.hcs, L.nbc, L.nbu, L.ncu, L.nb, L.nc, L.nu, L.sz⟩
theorem SA.not_own (S : SA C H p dx ac al ar ao rs wide n m c u v ow) {b : Addr} (h : H b = none) : ¬ SA.own p ac al ar ao rs b := by
  rintro (z | z | z | z | z | z)
  · rw [z, S.ob] at h; cases h
  · rw [z, S.co] at h; cases h
  · rw [z, S.le] at h; cases h
  · rw [z, S.ri] at h; cases h
  · rw [z, S.ow] at h; cases h
  · obtain ⟨i, hi, rfl⟩ := List.getElem_of_mem z
    obtain ⟨r, h1, h2⟩ := S.rw i (by rw [← S.rl]; exact hi)
    rw [List.getElem?_eq_getElem hi] at h1
    cases h1
    rw [h2] at h
    cases h
end
theorem lamFree {sc scope : Scope} (h : (scope.names.all fun y => !decide (y.2 = .free) || decide (sc.names.lookup y.1 = some .cell)) = true) : ∀ y ∈ scope.names, y.2 = .free → sc.names.lookup y.1 = some .cell ∨ sc.names.lookup y.1 = some .free := fun y hy e => by
  have h1 := List.all_eq_true.mp h y hy
  simp only [Bool.or_eq_true, Bool.not_eq_true', decide_eq_false_iff_not, decide_eq_true_eq] at h1
  rcases h1 with h1 | h1
  · exact absurd e h1
  · exact .inl h1
theorem rep_fl (x : V) (m : Nat) : (List.replicate ((m : Int)).toNat [x]).flatten = fl (fun _ => x) m := by
  rw [Int.toNat_natCast, flatten_one]
  rfl
/-- the first loop's state -/
def PutW (C : Addr) (T : TbA) (H : Hp) (p dx ac al ar ao us bs cs : Addr) (rs : List Addr) (wide n m : Nat) (c : Nat → Nat → Int) (ow : Nat → Option Nat) (row : Nat) (mm : Nat) (σ : L2.St) (H' : Hp) : Prop :=
  ∃ (used : List Nat) (ho col : Option Nat) (best : Nat → Option Int) (came : Nat → Option Nat) (u v : Nat → Int) (z6 z7 z9 : Option V), σ = [some (.ref p), some (iv row), some (.ref cs), some (.ref us), some (ov ho), some (ov col), z6, z7, some (.ref bs), z9] ∧
    Xo T (fun b => b = al ∨ b = ar ∨ b = ao ∨ b = us ∨ b = bs ∨ b = cs) H H' ∧ LkA C H' p dx ac al ar ao us bs cs rs wide n m c u v ow used best came ∧ Tb T H' ∧
    ((∃ h, ho = some h ∧ Head row m c u v ow used h col best came ∧ mm = m - used.length + 1) ∨ (ho = none ∧ mm = 0 ∧ ∃ l k, used = l ++ [k] ∧ col = some k ∧ Tree row m c u v ow used came ∧ ow k = none))
/-- the second loop's state -/
def PutW2 (C : Addr) (T : TbA) (H : Hp) (p dx ac al ar ao us bs cs : Addr) (rs : List Addr) (wide n m : Nat) (c : Nat → Nat → Int) (u v : Nat → Int) (ow : Nat → Option Nat) (used : List Nat) (came : Nat → Option Nat) (row : Nat) (mm : Nat) (σ : L2.St) (H' : Hp) : Prop :=
  ∃ (col : Option Nat) (best : Nat → Option Int) (o : Nat → Option Nat) (z3 z4 z6 z7 z8 z9 : Option V), σ = [some (.ref p), some (iv row), some (.ref cs), z3, z4, some (ov col), z6, z7, z8, z9] ∧
    Xo T (fun b => b = al ∨ b = ar ∨ b = ao ∨ b = us ∨ b = bs ∨ b = cs) H H' ∧ LkA C H' p dx ac al ar ao us bs cs rs wide n m c u v o used best came ∧
    ((∃ k l1, col = some k ∧ Aug row m c u v ow used came o k l1 ∧ mm = l1.length + 1) ∨ (col = none ∧ mm = 0 ∧ Good (row + 1) m c u v o))
theorem Xo.lam {T : TbA} {M : Addr → Prop} {H H1 : Hp} (h : LamX.TabS H T.lp T.ql) (k : ∀ b o, b ≠ T.lp → H b = some o → H1 b = some o) (h1 : LamX.TabS H1 T.lp T.ql) : Xo T M H H1 := by
  obtain ⟨ps, e0, _⟩ := h
  have g : ∀ Q, GxR.TabG H Q → GxR.TabG H1 Q := fun Q ⟨ps', a1, a2⟩ => by
    by_cases e : Q = T.lp
    · obtain ⟨ps1, b1, b2, _⟩ := id h1
      exact ⟨ps1, by rw [e]; exact b1, b2⟩
    · exact ⟨ps', k _ _ e a1, a2⟩
  refine ⟨fun b o e _ n => k b o (fun z => ?_) e, fun b ps' e => ?_, fun t => ⟨g _ t.gl, g _ t.gw, g _ t.gs, h1⟩⟩
  · rw [z, e0] at e
    cases e
    exact n _ rfl
  · by_cases hb : b = T.lp
    · obtain ⟨ps1, b1, _⟩ := id h1
      exact ⟨ps1, by rw [hb]; exact b1⟩
    · exact ⟨ps', k _ _ hb e⟩
/-! ### put_in -/
def spPut (C : Addr) (T : TbA) : Sp := fun vs H Q _ => ∃ (p dx ac al ar ao : Addr) (rs : List Addr) (wide n m : Nat) (c : Nat → Nat → Int) (u v : Nat → Int) (ow : Nat → Option Nat) (row : Nat),
  vs = [.ref p, iv row] ∧ SA C H p dx ac al ar ao rs wide n m c u v ow ∧ row < n ∧ row < m ∧ m ≤ 1000 ∧ Good row m c u v ow ∧ Tb T H ∧
  ∀ H' u' v' ow', Xo T (fun b => b = al ∨ b = ar ∨ b = ao) H H' → SA C H' p dx ac al ar ao rs wide n m c u' v' ow' → Good (row + 1) m c u' v' ow' → Q .non H'
abbrev putN : List Str := ["self", "row", "came", "used", "here", "column", "open_ones", "before", "best", "one"]
theorem scPut : FnScope putN ["self", "row"] (defScope sPut) := ⟨rfl, rfl, rfl, by decide +kernel, rfl, by decide +kernel, by decide +kernel⟩
section
variable {P : Program} {w : World} {K : PySem.W.Frag} {mg : Str → Option Value} {base : Heap} {T : TbA}
theorem ok_put {f C c fL fS : Addr} {fd fdL fdS : FuncData} (F : Fun K "put_in" "Search.put_in" sPut f fd) (hc : fd.code = .ref c) (B : Blt mg) (X : TxS K mg C) (TB : LamX.TabB base mg c T.lp) (hq : T.ql = (("Search.put_in" : Str) ++ ".<locals>.") ++ "<lambda>")
    (FL : Fun K "look" "Search.look" sLook fL fdL) (bL : Binds K fdL ["self", "here", "column", "used", "best", "came"] []) (mL : Meth K C "look" fL)
    (FS : Fun K "shift" "Search.shift" sShift fS fdS) (bS : Binds K fdS ["self", "row", "used", "best", "step"] []) (mS : Meth K C "shift" fS) : FnOk P w K mg base CX0 2 f fd ["self", "row"] (spPut C T) := by
  have GL : FnOk P w K mg base CX0 1 fL fdL ["self", "here", "column", "used", "best", "came"] (spLook C T) := ok_look FL B X
  have GS : FnOk P w K mg base CX0 1 fS fdS ["self", "row", "used", "best", "step"] (spShift C T) := ok_shift FS B X
  refine Fun.okC F hc scPut (fun vs H Q E h => ?_) (fun A outer s H vs Q E hr h => ?_)
  · obtain ⟨p, dx, ac, al, ar, ao, rs, wide, n, m, c, u, v, ow, row, rfl, _⟩ := h
    rfl
  · obtain ⟨p, dx, ac, al, ar, ao, rs, wide, n, m, c, u, v, ow, row, rfl, S, hrow, hrm, hm, hG, hT, q⟩ := h
    refine ⟨_, pss_cons (ps_set (i := 8) scPut.nd rfl (Or.inr rfl) (pe_op op_rep (pe_lst (pa_cons pe_non pa_nil)) (pe_callB call_len_seq (by rfl) B.len PySem.boot_len (pa_cons (pe_fld (pv 0) rfl) pa_nil))))
      (pss_cons (ps_set (i := 2) scPut.nd rfl (Or.inl rfl) (pe_op op_rep (pe_lst (pa_cons pe_non pa_nil)) (pe_callB call_len_seq (by rfl) B.len PySem.boot_len (pa_cons (pe_fld (pv 0) rfl) pa_nil))))
      (pss_cons (ps_asg (pe_tup (pa_cons (pe_lst pa_nil) (pa_cons (pv 1) (pa_cons pe_non pa_nil)))) (pg_tup rfl (pgs_cons (pg_name (i := 3) scPut.nd rfl (Or.inr rfl)) (pgs_cons (pg_name (i := 4) scPut.nd rfl (Or.inl rfl)) (pgs_cons (pg_name (i := 5) scPut.nd rfl (Or.inl rfl)) pgs_nil)))))
      (pss_cons (ps_while PassesOwn.never (pt_cmpR op_notN (pv 4) pe_non (nomark _))
        (pss_cons (ps_expr (pe_meth (pv 0) X.cl mL GL hr bL .nil pass0 (pa_cons (pv 4) (pa_cons (pv 5) (pa_cons (pv 3) (pa_cons (pv 8) (pa_cons (pv 2) pa_nil)))))))
        (pss_cons (ps_setLc (i := 6) (own := [("one", 9)]) (g := gName 9) (tt := tTest (tOp (rIn K true) (tVar 9) (tVar 3))) rfl scPut.nd rfl rfl (sw_true rfl rfl rfl (by decide +kernel)) (pi_range1 (by rfl) B.range (pa_cons (pe_callB call_len_seq (by rfl) B.len PySem.boot_len (pa_cons (pe_fld (pv 0) rfl) pa_nil)) pa_nil))
          (blkOk_by (N := putN) (sc := defScope sPut) (by decide +kernel)) (fun _ _ _ _ _ => pg_name (i := 9) scPut.nd rfl (Or.inl rfl)) (fun _ _ _ _ _ => pts_one (pt_cmpR op_notIn_seq (pv 9) (pv 3) (by rfl))) (fun _ _ _ _ _ => pv 9))
        (pss_cons (ps_set (i := 5) scPut.nd rfl (Or.inl rfl) (pe_minB (j := 8) hr (by rfl) B.min TB rfl ⟨rfl, rfl, rfl, by decide +kernel, rfl, lamFree (sc := defScope sPut) (by decide +kernel)⟩ rfl rfl rfl (by rfl) (fun _ _ _ _ _ _ _ => by rfl) (pa_cons (pv 6) pa_nil)))
        (pss_cons (ps_expr (pe_meth (pv 0) X.cl mS GS hr bS .nil pass0 (pa_cons (pv 1) (pa_cons (pv 3) (pa_cons (pv 8) (pa_cons (pe_ix ix_list (pv 8) (pv 5) (fun _ _ => rfl)) pa_nil))))))
        (pss_cons (ps_expr (pe_bm PySem.F.plainAttrs_list PySem.F.slot_list_append PySem.F.type_list_append mt_append (pv 3) (pa_cons (pv 5) pa_nil)))
        (pss_one (ps_set (i := 4) scPut.nd rfl (Or.inl rfl) (pe_ix ix_list (pe_fld (pv 0) rfl) (pv 5) (fun _ _ => rfl))))))))))
      (pss_one (ps_while PassesOwn.never (pt_cmpR op_notN (pv 5) pe_non (nomark _))
        (pss_cons (ps_set (i := 7) scPut.nd rfl (Or.inl rfl) (pe_ix ix_list (pv 2) (pv 5) (fun _ _ => rfl)))
        (pss_cons (ps_asg (pe_ifExp (pt_cmpR op_notN (pv 7) pe_non (nomark _)) (pe_ix ix_list (pe_fld (pv 0) rfl) (pv 7) (fun _ _ => rfl)) (pv 1)) (pg_sub (pe_fld (pv 0) rfl) (pv 5) set_list))
        (pss_one (ps_set (i := 5) scPut.nd rfl (Or.inl rfl) (pv 7)))))))))), ?_⟩
    refine ⟨by show 1 ≤ sizeLine; decide, fun t1 h1 => ?_⟩
    have S1 : SA C (upd H t1 (.lst [.non])) p dx ac al ar ao rs wide n m c u v ow := S.keep fun b o _ e => by rw [upd_ne (ne_of_none e h1)]; exact e
    refine ⟨_, rfl, p, C, dx, _, _, rfl, S1.ob, X.cl, X.nO, rfl, ao, _, rfl, .inl (SqL.of S1.ow), ?_⟩
    rw [fl_len]
    refine ⟨t1, _, _, rfl, rfl, upd_same, by omega, by omega, by show 1 * ((m : Int)).toNat ≤ sizeLine; rw [Int.toNat_natCast, sizeLine_eq]; omega, fun bs hbs => ?_⟩
    rw [rep_fl]
    have xa : Xo T nM H (upd (upd H t1 (.lst [.non])) bs (.lst (fl (fun _ => .non) m))) := (Xo.new1 h1).new hbs
    have S2 : SA C (upd (upd H t1 (.lst [.non])) bs (.lst (fl (fun _ => .non) m))) p dx ac al ar ao rs wide n m c u v ow := S1.keep fun b o _ e => by rw [upd_ne (ne_of_none e hbs)]; exact e
    have hb1 : upd (upd H t1 (.lst [.non])) bs (.lst (fl (fun _ => .non) m)) bs = some (.lst (fl (fun j => bV none) m)) := upd_same
    have nb1 : H bs = none := (Xo.new1 (T := T) (M := nM) h1).free hbs (fun z => z)
    generalize upd (upd H t1 (.lst [.non])) bs (.lst (fl (fun _ => .non) m)) = Ha at xa S2 hb1 ⊢
    refine ⟨by show 1 ≤ sizeLine; decide, fun t2 h2 => ?_⟩
    have S3 : SA C (upd Ha t2 (.lst [.non])) p dx ac al ar ao rs wide n m c u v ow := S2.keep fun b o _ e => by rw [upd_ne (ne_of_none e h2)]; exact e
    refine ⟨_, rfl, p, C, dx, _, _, rfl, S3.ob, X.cl, X.nO, rfl, ao, _, rfl, .inl (SqL.of S3.ow), ?_⟩
    rw [fl_len]
    refine ⟨t2, _, _, rfl, rfl, upd_same, by omega, by omega, by show 1 * ((m : Int)).toNat ≤ sizeLine; rw [Int.toNat_natCast, sizeLine_eq]; omega, fun cs hcs => ?_⟩
    rw [rep_fl]
    have xb : Xo T nM H (upd (upd Ha t2 (.lst [.non])) cs (.lst (fl (fun _ => .non) m))) := (xa.new h2).new hcs
    have S4 : SA C (upd (upd Ha t2 (.lst [.non])) cs (.lst (fl (fun _ => .non) m))) p dx ac al ar ao rs wide n m c u v ow := S3.keep fun b o _ e => by rw [upd_ne (ne_of_none e hcs)]; exact e
    have hb2 : upd (upd Ha t2 (.lst [.non])) cs (.lst (fl (fun _ => .non) m)) bs = some (.lst (fl (fun j => bV none) m)) := by
      have e1 : upd Ha t2 (.lst [.non]) bs = some (.lst (fl (fun j => bV none) m)) := by rw [upd_ne (ne_of_none hb1 h2)]; exact hb1
      rw [upd_ne (ne_of_none e1 hcs)]
      exact e1
    have hc2 : upd (upd Ha t2 (.lst [.non])) cs (.lst (fl (fun _ => .non) m)) cs = some (.lst (fl (fun j => ov none) m)) := upd_same
    have nc1 : H cs = none := (xa.new h2).free hcs (fun z => z)
    have nbc : bs ≠ cs := by
      have e1 : upd Ha t2 (.lst [.non]) bs = some (.lst (fl (fun j => bV none) m)) := by rw [upd_ne (ne_of_none hb1 h2)]; exact hb1
      exact ne_of_none e1 hcs
    generalize upd (upd Ha t2 (.lst [.non])) cs (.lst (fl (fun _ => .non) m)) = Hb at xb S4 hb2 hc2 ⊢
    refine ⟨Nat.zero_le _, fun us hus => ⟨_, rfl, by show 3 ≤ sizeLine; decide, fun t3 h3 => ⟨_, _, rfl, SqT.of upd_same, rfl, _, _, rfl, _, _, rfl, _, _, rfl, rfl, ?_⟩⟩⟩
    have xc : Xo T nM H (upd (upd Hb us (.lst [])) t3 (.tup [.ref us, iv row, .non])) := (xb.new hus).new h3
    have nu1 : H us = none := xb.free hus (fun z => z)
    have Lk : LkA C (upd (upd Hb us (.lst [])) t3 (.tup [.ref us, iv row, .non])) p dx ac al ar ao us bs cs rs wide n m c u v ow [] (fun _ => none) (fun _ => none) := by
      have L0 : LkA C (upd Hb us (.lst [])) p dx ac al ar ao us bs cs rs wide n m c u v ow [] (fun _ => none) (fun _ => none) :=
        ⟨S4.keep fun b o _ e => by rw [upd_ne (ne_of_none e hus)]; exact e, upd_same, by rw [upd_ne (ne_of_none hb2 hus)]; exact hb2, by rw [upd_ne (ne_of_none hc2 hus)]; exact hc2, nbc, (ne_of_none hb2 hus).symm, (ne_of_none hc2 hus).symm, S.not_own nb1, S.not_own nc1, S.not_own nu1, hm⟩
      exact L0.new h3
    refine while_ex (PutW C T H p dx ac al ar ao us bs cs rs wide n m c ow row) (m - 0 + 1) ?_ (fun mm σ H' hw => ?_) (fun σ H Q Q' hf hc => ?_)
    · exact ⟨[], some row, none, _, _, u, v, none, none, none, rfl, xc.mono (fun b z => z.elim), Lk, xc.tb hT, .inl ⟨row, rfl, Head.start hG _, rfl⟩⟩
    · obtain ⟨used, ho, col, best, came, u1, v1, z6, z7, z9, rfl, hx, L, hTb, hcase⟩ := hw
      refine ⟨_, rfl, rfl, _, rfl, ?_⟩
      rcases hcase with ⟨h, rfl, hH, rfl⟩ | ⟨rfl, rfl, l, k, rfl, rfl, hTr, hok⟩
      · refine iteT ?_
        have hhn : h < n := Nat.lt_of_le_of_lt (here_le hH) hrow
        refine ⟨_, rfl, p, dx, _, rfl, L.sa.ob, rfl, _, rfl, _, rfl, _, rfl, _, rfl, _, rfl, p, dx, ac, al, ar, ao, us, bs, cs, rs, wide, n, m, c, u1, v1, ow, used, best, came, h, col, rfl, L, hhn, fun H1 hx1 L1 => ?_⟩
        have hx1' := hx.trans (hx1.mono fun b z => by rcases z with z | z <;> simp [z])
        have hT1 := hx1.tb hTb
        have outD : ∀ D, H1 D = none → ¬ (D = al ∨ D = ar ∨ D = ao ∨ D = us ∨ D = bs ∨ D = cs) := fun D hD z => by
          rcases z with z | z | z | z | z | z
          · rw [z, L1.sa.le] at hD; cases hD
          · rw [z, L1.sa.ri] at hD; cases hD
          · rw [z, L1.sa.ow] at hD; cases hD
          · rw [z, L1.hus] at hD; cases hD
          · rw [z, L1.hbs] at hD; cases hD
          · rw [z, L1.hcs] at hD; cases hD
        refine ⟨_, rfl, p, C, dx, _, _, rfl, L1.sa.ob, X.cl, X.nO, rfl, ao, _, rfl, .inl (SqL.of L1.sa.ow), ?_⟩
        rw [fl_len]
        refine ⟨_, rfl, by omega, by omega, fun D hD => lc_range (lo := 0) (n := m) (fun i Hx => Xo T (fun b => b = al ∨ b = ar ∨ b = ao ∨ b = us ∨ b = bs ∨ b = cs) H Hx ∧ Tb T Hx ∧ LkA C Hx p dx ac al ar ao us bs cs rs wide n m c u1 v1 ow used (lookB c u1 v1 used h best) (lookC c u1 v1 used h col best came) ∧
          D ≠ us ∧ D ≠ bs ∧ Hx D = some (.lst (((List.range i).filter fun j => !decide (j ∈ used)).map iv)) ∧ H1 D = none)
          ⟨hx1'.new hD, (Xo.new1 (T := T) (M := nM) hD).tb hT1, L1.new hD, (ne_of_none L1.hus hD).symm, (ne_of_none L1.hbs hD).symm, upd_same, hD⟩ (fun i Hx hi ⟨y1, y2, y3, y4, y5, y6, y7⟩ => ?_) (fun Hx ⟨y1, y2, y3, y4, y5, y6, y7⟩ => ?_)⟩
        · refine ⟨rfl, ?_⟩
          refine ⟨_, rfl, _, rfl, us, _, rfl, .inl (SqL.of y3.hus), rfl, flat_nats _, _, rfl, ?_⟩
          rw [Int.zero_add]
          show (if (!inV (iv i) (used.map iv)) = true then _ else _)
          rw [inV_nats]
          have el : (List.range (i + 1)).filter (fun j => !decide (j ∈ used)) = (List.range i).filter (fun j => !decide (j ∈ used)) ++ (if !decide (i ∈ used) then [i] else []) := by
            rw [List.range_succ, List.filter_append]
            congr 1
            by_cases e : i ∈ used
            · simp [e]
            · simp [e]
          by_cases hu : i ∈ used
          · rw [decide_eq_true hu]
            refine iteF ?_
            refine ⟨y1, y2, y3, y4, y5, ?_, y7⟩
            rw [el, decide_eq_true hu]
            simpa using y6
          · rw [decide_eq_false hu]
            refine iteT ?_
            refine ⟨_, rfl, _, y6, ?_, y1.mut (.inl ?_) (by rw [y6]; exact Soft.lst), ?_, ?_, y4, y5, ?_, y7⟩
            · rw [List.length_map, sizeLine_eq]
              have := opens_len i used
              omega
            · exact hx1'.free y7 (outD D y7)
            · exact (Xo.mut (M := fun b => b = D) .refl (.inr rfl) (by rw [y6]; exact Soft.lst)).tb y2
            · exact y3.other (L1.sa.not_own y7) (ne_of_none L1.hus y7) (ne_of_none L1.hbs y7) (ne_of_none L1.hcs y7)
            · rw [upd_same, el, decide_eq_false hu, List.map_append]
              rfl
        · have hcolT : LamX.TabS Hx T.lp T.ql := y2.lp
          obtain ⟨k0, hk0, hk0u⟩ := open_one hH hrm
          have hop : ∀ i, i ∈ (List.range m).filter (fun j => !decide (j ∈ used)) ↔ i < m ∧ i ∉ used := fun i => by simp
          have hbest : ∀ i, i ∈ (List.range m).filter (fun j => !decide (j ∈ used)) → (fl (fun j => bV (lookB c u1 v1 used h best j)) m)[i]? = some (.int ((lookB c u1 v1 used h best i).getD 0)) := fun i hi => by
            obtain ⟨h1, h2⟩ := (hop i).mp hi
            obtain ⟨b, e, _⟩ := look_le hH h1 h2
            rw [fl_get h1, e]
            rfl
          refine ⟨_, rfl, D, bs, (List.range m).filter (fun j => !decide (j ∈ used)), (fun i => (lookB c u1 v1 used h best i).getD 0), _, rfl, SqL.of y6, List.ne_nil_of_mem ((hop k0).mpr ⟨hk0, hk0u⟩), rfl, SqL.of y3.hbs, hbest, ?_, fun H3 k hk3 hT3 hkm hkl => ?_⟩
          · rw [hq] at hcolT
            exact hcolT
          · obtain ⟨hkm', hku⟩ := (hop k).mp hkm
            obtain ⟨d, ed, _⟩ := look_le hH hkm' hku
            have hT3' : LamX.TabS H3 T.lp T.ql := by
              rw [hq]
              exact hT3
            have x3 : Xo T (fun b => b = al ∨ b = ar ∨ b = ao ∨ b = us ∨ b = bs ∨ b = cs) Hx H3 := .lam y2.lp hk3 hT3'
            obtain ⟨psP, hPx, _⟩ := id y2.lp
            have L3 := y3.keep (H1 := H3) (fun b xs e => hk3 b _ (fun z => by rw [z, hPx] at e; cases e) e) (by rw [y3.sa.ob]; exact hk3 _ _ (fun z => by have e := y3.sa.ob; rw [z, hPx] at e; cases e) y3.sa.ob)
            have hT3b := x3.tb y2
            refine ⟨_, rfl, p, dx, _, rfl, L3.sa.ob, rfl, _, rfl, _, rfl, _, rfl, _, rfl, _, rfl, bs, _, _, .int d, rfl, rfl, SqL.of L3.hbs, (by rw [fl_at hkm', ed]; rfl), ?_⟩
            refine ⟨p, dx, ac, al, ar, ao, us, bs, cs, rs, wide, n, m, c, u1, v1, ow, used, ownsOf ow used, _, _, row, d, rfl, L3, hrow, owns_paired fun k' hk' => ?_, fun H4 x4 L4 => ?_⟩
            · obtain ⟨i, ei⟩ := hH.have_ k' hk'
              have l1 := hH.tree.lt k' hk'
              exact ⟨l1, i, Nat.lt_trans (hH.tree.own i k' l1 ei) hrow, ei⟩
            · have hul := used_len hH
              refine ⟨_, rfl, .inl ⟨rfl, _, SqL.of L4.hus⟩, _, rfl, us, _, _, rfl, rfl, L4.hus, by rw [List.length_map, sizeLine_eq]; omega, ?_⟩
              have el : used.map iv ++ [V.int (k : Int)] = (used ++ [k]).map iv := by
                rw [List.map_append]
                rfl
              rw [el]
              have L5 := L4.setU (used1 := used ++ [k])
              have hd' : ∀ j b, j < m → j ∉ used → lookB c u1 v1 used h best j = some b → d ≤ b := fun j b hj hju e => by
                have := hkl j ((hop j).mpr ⟨hj, hju⟩)
                simp only [ed, e] at this
                exact this
              have tn := turn_of hH hkm' hku ed hd'
              obtain ⟨tr, hd⟩ := hH.turn tn
              have x5 := ((y1.trans x3).trans (x4.mono fun b z => by rcases z with z | z | z <;> simp [z])).mut (a := us) (o := .lst ((used ++ [k]).map iv)) (.inr (.inr (.inr (.inr (.inl rfl))))) (by rw [L4.hus]; exact Soft.lst)
              have hT5 := (Xo.mut (T := T) (M := fun b => b = us) (o := .lst ((used ++ [k]).map iv)) .refl (.inr rfl) (by rw [L4.hus]; exact Soft.lst)).tb (x4.tb hT3b)
              refine ⟨_, rfl, p, C, dx, _, _, rfl, L5.sa.ob, X.cl, X.nO, rfl, _, rfl, ao, _, _, _, rfl, rfl, SqL.of L5.sa.ow, fl_at hkm', ?_⟩
              cases ek : ow k with
              | some i =>
                refine ⟨m - (used ++ [k]).length + 1, ?_, used ++ [k], some i, some k, _, _, _, _, _, _, _, rfl, x5, L5, hT5, .inl ⟨i, rfl, hd i ek, rfl⟩⟩
                rw [List.length_append, List.length_singleton]
                omega
              | none =>
                refine ⟨0, Nat.succ_pos _, used ++ [k], none, some k, _, _, _, _, _, _, _, rfl, x5, L5, hT5, .inr ⟨rfl, rfl, used, k, rfl, rfl, tr, ek⟩⟩
      · refine iteF ?_
        refine while_ex (PutW2 C T H p dx ac al ar ao us bs cs rs wide n m c u1 v1 ow (l ++ [k]) came row) (l.length + 1) ?_ (fun mm σ H' hw => ?_) (fun σ H Q Q' hf hc => ?_)
        · exact ⟨some k, best, ow, _, _, _, _, _, _, rfl, hx, L, .inl ⟨k, l, rfl, Aug.start hTr hok, rfl⟩⟩
        · obtain ⟨col, best', o, z3, z4, z6', z7', z8, z9', rfl, hx2, L2, hcase⟩ := hw
          refine ⟨_, rfl, rfl, _, rfl, ?_⟩
          rcases hcase with ⟨k2, l1, rfl, hA, rfl⟩ | ⟨rfl, rfl, hG2⟩
          · refine iteT ?_
            have hkm := hA.klt
            cases ek : came k2 with
            | some b =>
              obtain ⟨l2, hA2, hbm, hll⟩ := hA.step ek
              refine ⟨_, rfl, _, rfl, cs, _, _, iv b, rfl, rfl, SqL.of L2.hcs, (by rw [fl_at hkm, ek]; rfl), _, rfl, rfl, _, rfl, iteT ?_⟩
              refine ⟨_, rfl, p, C, dx, _, _, rfl, L2.sa.ob, X.cl, X.nO, rfl, _, rfl, ao, _, _, _, rfl, rfl, SqL.of L2.sa.ow, fl_at hbm, _, rfl, p, C, dx, _, _, rfl, L2.sa.ob, X.cl, X.nO, rfl, _, rfl, ao, _, _, _, rfl, rfl, L2.sa.ow, fl_ix hkm, ?_⟩
              have eO : (fl (fun j => ov (o j)) m).set k2 (ov (o b)) = fl (fun j => ov (fset o k2 (o b) j)) m := by rw [fl_set hkm, ← fset_map keyV]
              rw [eO]
              exact ⟨_, rfl, l2.length + 1, by omega, some b, best', fset o k2 (o b), _, _, _, _, _, _, rfl, hx2.mut (.inr (.inr (.inr (.inl rfl)))) (by rw [L2.sa.ow]; exact Soft.lst), L2.setO, .inl ⟨b, l2, rfl, hA2, rfl⟩⟩
            | none =>
              have hG2 := hA.done ek
              refine ⟨_, rfl, _, rfl, cs, _, _, .non, rfl, rfl, SqL.of L2.hcs, (by rw [fl_at hkm, ek]; rfl), _, rfl, rfl, _, rfl, iteF ?_⟩
              refine ⟨_, rfl, _, rfl, p, C, dx, _, _, rfl, L2.sa.ob, X.cl, X.nO, rfl, _, rfl, ao, _, _, _, rfl, rfl, L2.sa.ow, fl_ix hkm, ?_⟩
              have eO : (fl (fun j => ov (o j)) m).set k2 (iv row) = fl (fun j => ov (fset o k2 (some row) j)) m := by rw [fl_set hkm]; exact congrArg (fun g => fl g m) (fset_map (x := some row) keyV).symm
              rw [eO]
              exact ⟨_, rfl, 0, Nat.succ_pos _, none, best', fset o k2 (some row), _, _, _, _, _, _, rfl, hx2.mut (.inr (.inr (.inr (.inl rfl)))) (by rw [L2.sa.ow]; exact Soft.lst), L2.setO, .inr ⟨rfl, rfl, hG2⟩⟩
          · refine iteF ?_
            refine q _ _ _ _ (hx2.drop fun b z => ?_) L2.sa hG2
            rcases z with z | z | z | z | z | z
            · exact .inr (.inl z)
            · exact .inr (.inr (.inl z))
            · exact .inr (.inr (.inr z))
            · exact .inl (by rw [z]; exact nu1)
            · exact .inl (by rw [z]; exact nb1)
            · exact .inl (by rw [z]; exact nc1)
        · obtain ⟨v, e1, e2, k, e3, q⟩ := hc
          exact ⟨v, e1, e2, k, e3, hf _ _ q⟩
    · obtain ⟨v, e1, e2, k, e3, q⟩ := hc
      exact ⟨v, e1, e2, k, e3, hf _ _ q⟩
end
end G3

set_option Elab.async false
set_option linter.all false
set_option maxRecDepth 100000
set_option maxHeartbeats 2000000
namespace G3
open PySem PySem.Spec PyProof.Rows L2
section
variable {X : Cx} {pins : List (Addr × Obj)} {σ : L2.St} {H H1 : Hp} {s s1 s2 s3 : Shared} {P : Addr} {scope : Scope} {cenv : Env} {A : Around} {E : Value → Shared → Prop} {Q : Value → Shared → Prop}
/-- len(e) of a tuple, in a generator -/
theorem GEnv.lenT (G : GEnv X pins σ H1 s1 P scope cenv s2) {e : Expr} {p pos : Pos} (hk : scope.kind = .function) (hl : scope.names.lookup ("len" : Str) = some .globalImplicit) (hm : X.mg "len" = none)
    (h : wpAny (model X.prog X.w) A (eval e cenv) (fun v s3 => ∃ (a : Addr) (items : Array Value), v = .ref a ∧ s3.heap.IsTuple a items ∧ (items.size : Int) < 2 ^ 63 ∧ Q (.int items.size (s3.toks + 1)) { s3 with toks := s3.toks + 1 + 1 }) E s2)
    (he : starEach [e] cenv = (false, eval e cenv) :: starEach [] cenv := by rfl) : wpAny (model X.prog X.w) A (eval (.Call (.Name "len" p) [e] [] pos) cenv) Q E s2 := by
  refine wpAny_Call_Name_kw (G.bltn hk hl hm boot_len ?_)
  refine PyProof.Rows.callWith_builtin1 ?_ he (by rfl)
  rw [he]
  show wpAny _ _ (spliced ((false, eval e cenv) :: backTo pos (starEach [] cenv))) _ _ s2
  refine Calls.spliced_cons (wpAny_mono h (fun v s3 ⟨a, items, e1, ht, hf, q⟩ => ?_) fun _ _ x => x)
  refine Calls.spliced_nil ?_
  subst e1
  exact len_tuple (show IsTup s3.heap a items from ht) hf q
end
/-! ### check_worths -/
def spWorths (K : PySem.W.Frag) (T : TbA) : Sp := fun vs H Q _ => ∃ (o : Addr) (ts : List Addr) (W : Nat → Nat → Int) (wide : Nat), vs = [.ref o] ∧ SqL K H o (ts.map V.ref) ∧ (∀ i t, ts[i]? = some t → SqT K H t (fl (fun j => .int (W i j)) wide)) ∧ (∀ i j, 0 ≤ W i j) ∧ ts.length ≤ 1000 ∧ wide ≤ 1000 ∧ Tb T H ∧
  ∀ H' q, Xo T nM H H' → H q = none → H' q = some (.lst (ts.map V.ref)) → Q (.ref q) H'
theorem scWorths : FnScope ["rows", "found", "row"] ["rows"] (defScope sWorths) := ⟨rfl, rfl, rfl, by decide +kernel, rfl, by decide +kernel, by decide +kernel⟩
theorem elt_worths {X : Cx} {pa : Addr} {scope : Scope} {σ : L2.St} {H1 : Hp} {ts : List Addr} {W : Nat → Nat → Int} {wide j kk : Nat} {q : Addr} {p0 p1 p2 p3 p4 p5 p6 p7 p8 : Pos} (hk : scope.kind = .function) (hl : scope.names.lookup ("found" : Str) = some .free) (hx : scope.names.lookup ("row" : Str) = some .local) (hn : scope.names.lookup ("len" : Str) = some .globalImplicit) (hm : X.mg "len" = none)
    (hN : X.N[j]? = some "found") (hv : σ[j]? = some (some (.ref q))) (hy : X.env.scope.names.lookup ("found" : Str) = some .cell) (hq : SqL X.K H1 q (ts.map V.ref)) (ht : ∀ i t, ts[i]? = some t → SqT X.K H1 t (fl (fun j => .int (W i j)) wide)) (hw : wide ≤ 1000) :
    EltF X pa scope "row" (.Compare (.Call (.Name "len" p0) [.Name "row" p1] [] p2) [.NotEq] [.Call (.Name "len" p3) [.Subscript (.Name "found" p4) (.Constant (.int 0) kk p5) p6] [] p7] p8) σ H1 (ts.map V.ref) := by
  intro pins s1 cenv s2 A' E' i xv v m2 G hA hi rx hns hmx
  rw [List.getElem?_map] at hi
  cases et : ts[i]? with
  | none => rw [et] at hi; cases hi
  | some t =>
    rw [et] at hi
    obtain rfl : V.ref t = xv := Option.some.inj hi
    obtain rfl : v = Value.ref t := rx
    obtain ⟨its, r1, ht1, _⟩ := G.tuple (ht i t et)
    have l1 : its.toArray.size = wide := by
      have := r1.length
      rw [fl_len] at this
      simpa using this.symm
    refine wpAny_Compare1 (G.lenT hk hn hm (G.own hk hx hns hmx ⟨t, its.toArray, rfl, ht1, by rw [l1]; omega, ?_⟩ (by decide))) (by with_unfolding_all rfl)
    have G2 := G.up (s3 := { s2 with toks := s2.toks + 1 + 1 }) fun _ _ e => e
    obtain ⟨t0, e0⟩ : ∃ t0, ts[0]? = some t0 := ⟨_, List.getElem?_eq_getElem (Nat.lt_of_le_of_lt (Nat.zero_le _) (List.getElem?_eq_some_iff.mp et).1)⟩
    refine G2.lenT hk hn hm ?_
    refine Subscript_ (G2.free hk hl hN hv hy (fun u0 r0 => ?_))
    obtain rfl : u0 = Value.ref q := r0
    refine wpAny_Constant_int ?_
    have G3 := G2.up (s3 := { s2 with toks := s2.toks + 1 + 1 + 1 }) fun _ _ e => e
    obtain ⟨fs, rf, hf, _⟩ := G3.list hq
    obtain ⟨u, hu, ru⟩ := rf.get (i := 0) (x := .ref t0) (by rw [List.getElem?_map, e0]; rfl)
    obtain rfl : u = Value.ref t0 := ru
    obtain ⟨its0, r0, ht0, _⟩ := G3.tuple (ht 0 t0 e0)
    have l0 : its0.toArray.size = wide := by
      have := r0.length
      rw [fl_len] at this
      simpa using this.symm
    refine item_listR hf (Int.le_refl 0) (by omega) (by simpa using hu) ⟨t0, its0.toArray, rfl, ht0, by rw [l0]; omega, ?_⟩
    refine PyProof.Rows.ne_int ?_
    rw [l1, l0]
    refine ⟨?_, _, _, rfl, fun _ _ e => e⟩
    simp
theorem test_neg {prog : Program} {w : World} {scope : Scope} {kk : Nat} {p0 p1 p2 : Pos} (hk : scope.kind = .function) (hx : scope.names.lookup ("worth" : Str) = some .local) : TestF prog w scope "worth" (.Compare (.Name "worth" p0) [.Lt] [.Constant (.int 0) kk p1] p2) := by
  intro cenv A' E' z t s₂ m₂ hs hA hz hn hm
  refine wpAny_Compare1 (wpAny_Name (wpAny_loadName_local (by rw [hs]; exact hk) (show cenv.scope.names.lookup ("worth" : Str) = some .local by rw [hs]; exact hx) hn hm ?_) (by decide)) (by with_unfolding_all rfl)
  refine wpAny_Constant_int (PyProof.Rows.lt_int ⟨?_, _, _, rfl, fun _ _ e => e⟩)
  rw [decide_eq_false (by omega)]
section
variable {P : Program} {w : World} {K : PySem.W.Frag} {mg : Str → Option Value} {base : Heap} {T : TbA}
theorem ok_worths {f c : Addr} {fd : FuncData} (F : Fun K "check_worths" "check_worths" sWorths f fd) (hc : fd.code = .ref c) (B : Blt mg) (TB : GxR.TabB base mg c T.gw) (hne : T.gw ≠ T.lp) : FnOk P w K mg base CX0 1 f fd ["rows"] (spWorths K T) := by
  refine Fun.okC F hc scWorths (fun vs H Q E h => ?_) (fun A outer s H vs Q E hr h => ?_)
  · obtain ⟨o, ts, W, wide, rfl, _⟩ := h
    rfl
  · obtain ⟨o, ts, W, wide, rfl, hL, ht, h0, hz, hw, hT, q⟩ := h
    refine ⟨_, pss_cons (ps_set (i := 1) scWorths.nd rfl (Or.inr rfl) (pe_lc (own := [("row", 2)]) (g := gName 2) (tt := tYes) (te := tCB (fun xs H Q => ∃ a ys, xs = [.ref a] ∧ SqT K H a ys ∧ Q (.ref a) H) (tCons (tVar 2) tNil)) rfl scWorths.nd (pi_list (pv 0)) (blkOk_by (N := ["rows", "found", "row"]) (sc := defScope sWorths) (by decide +kernel))
          (fun _ _ _ _ _ => pg_name (i := 2) scWorths.nd rfl (Or.inl rfl)) (fun _ _ _ _ _ => pts_nil) (fun _ _ _ _ _ => pe_callTy call_tupleT (by rfl) B.tuple (by decide +kernel) (pa_cons (pv 2) pa_nil))))
      (pss_cons (ps_if (PW.pt (pw_or (pt_val (pe_anyF hr (by rfl) B.any TB rfl ⟨rfl, rfl, by decide +kernel, rfl, rfl, genFree (by decide +kernel)⟩ (pv 1) (by intro _; rfl)))
          (pw_or1 (pt_val (pe_anyF2 hr (by rfl) B.any TB rfl ⟨rfl, rfl, by decide +kernel, rfl, rfl, genFree (by decide +kernel)⟩ rfl (pv 1) (by intro _; rfl) (test_neg rfl rfl)))))) (pss_one ps_never) pss_nil)
      (pss_one (ps_ret (pv 1)))), ?_⟩
    refine ⟨_, rfl, o, rfl, ⟨_, hL⟩, fun D hD => lc_list (K := K) (a := o) (xs := ts.map V.ref) (fun i H' => Xo T nM H H' ∧ H' D = some (.lst ((ts.take i).map V.ref)))
      ⟨Xo.refl.new hD, upd_same⟩ (fun i H' _ ⟨x, _⟩ => x.sL hL) (fun i x H' hi ⟨hx, hDt⟩ => ?_) (fun H' ⟨hx, hDt⟩ => ?_)⟩
    · rw [List.getElem?_map] at hi
      cases et : ts[i]? with
      | none => rw [et] at hi; cases hi
      | some t =>
        rw [et] at hi
        obtain rfl : V.ref t = x := Option.some.inj hi
        have hil := (List.getElem?_eq_some_iff.mp et).1
        refine ⟨rfl, ?_⟩
        refine ⟨_, rfl, t, _, rfl, hx.sT (ht i t et), _, hDt, by rw [List.length_map, List.length_take, sizeLine_eq]; omega, hx.mut (.inl hD) (by rw [hDt]; exact Soft.lst), ?_⟩
        rw [upd_same, List.take_add_one, et, List.map_append]
        rfl
    · rw [List.length_map, List.take_of_length_le (Nat.le_refl _)] at hDt
      have hT1 := hx.tb hT
      refine ⟨_, rfl, D, _, rfl, .inl (SqL.of hDt), hT1.gw, elt_worths (j := 1) rfl rfl rfl rfl B.len rfl rfl rfl (SqL.of hDt) (fun i t e => hx.sT (ht i t e)) hw, fun H2 hg => ⟨_, rfl, iteF ?_⟩⟩
      have x2 : Xo T nM H' H2 := .gen hg hT1.gw hne
      have hD2 : H2 D = some (.lst (ts.map V.ref)) := x2.lst hDt (fun z => z)
      have hT2 := x2.tb hT1
      refine ⟨_, rfl, D, _, rfl, .inl (SqL.of hD2), hT2.gw, fun i xv hi => ?_, fun H3 hg3 => ⟨_, rfl, iteF ?_⟩⟩
      · rw [List.getElem?_map] at hi
        cases et : ts[i]? with
        | none => rw [et] at hi; cases hi
        | some t =>
          rw [et] at hi
          obtain rfl : V.ref t = xv := Option.some.inj hi
          refine ⟨t, (List.range wide).map (W i), rfl, ?_, fun z hz => ?_⟩
          · rw [List.map_map]
            exact x2.sT (hx.sT (ht i t et))
          · obtain ⟨j, _, rfl⟩ := List.mem_map.mp hz
            exact h0 i j
      · have x3 : Xo T nM H2 H3 := .gen hg3 hT2.gw hne
        exact ⟨_, rfl, q _ D ((hx.trans x2).trans x3) hD (x3.lst hD2 (fun z => z))⟩
end
end G3

set_option Elab.async false
set_option linter.all false
set_option maxRecDepth 100000
set_option maxHeartbeats 2000000
namespace G3
open PySem PySem.Spec PyProof.Rows L2
/-! ### ints, Nones, tuples of them, lists of such tuples as data -/
/-- a flat item: an int or None -/
inductive Flat : V → PyData → Prop
  | non : Flat .non .none
  | int (i : Int) : Flat (.int i) (.int i)
theorem Flat.dp {K : PySem.W.Frag} {H : Hp} {v : V} {d : PyData} (f : Flat v d) : Dp K H v d := by
  cases f with
  | non => exact .non
  | int i => exact .int i
abbrev Flats : List V → List PyData → Prop := Paired Flat
theorem Flats.dp {K : PySem.W.Frag} {H : Hp} : ∀ {vs : List V} {ds : List PyData}, Flats vs ds → DpAll K H vs ds
  | _, _, .nil => .nil
  | _, _, .cons f t => .cons f.dp (Flats.dp t)
theorem Flat.lay {v : V} {d : PyData} (f : Flat v d) : d.canLay0 = true ∧ d.depth = 0 := by
  cases f with
  | non => exact ⟨by simp [PyData.canLay0], by simp [PyData.depth]⟩
  | int i => exact ⟨by simp [PyData.canLay0], by simp [PyData.depth]⟩
theorem Flats.lay : ∀ {vs : List V} {ds : List PyData}, Flats vs ds → PyData.canLayAll0 ds = true ∧ PyData.depthAll ds = 0
  | _, _, .nil => ⟨by simp [PyData.canLayAll0], by simp [PyData.depthAll]⟩
  | _, _, .cons f t => by
    obtain ⟨h1, h2⟩ := f.lay
    obtain ⟨h3, h4⟩ := Flats.lay t
    exact ⟨by simp [PyData.canLayAll0, h1, h3], by simp [PyData.depthAll, h2, h4]⟩
theorem Flats.shaped {vs : List V} {ds : List PyData} (f : Flats vs ds) : SeqAt.shaped (.tuple ds) = true := by
  obtain ⟨h3, h4⟩ := f.lay
  show (PyData.canLay0 (.tuple ds) && decide (PyData.depth (.tuple ds) ≤ 64)) = true
  rw [Bool.and_eq_true]
  exact ⟨by simp only [PyData.canLay0]; exact h3, decide_eq_true (by simp only [PyData.depth]; omega)⟩
theorem Flat.eqv {v v' : V} {d d' : PyData} (f : Flat v d) (f' : Flat v' d') : PyData.eqv d d' = decide (v = v') := by
  cases f with
  | non =>
    cases f' with
    | non => simp [PyData.eqv]
    | int i => simp [PyData.eqv]
  | int i =>
    cases f' with
    | non => simp [PyData.eqv]
    | int j =>
      simp only [PyData.eqv]
      by_cases h : i = j
      · simp [h]
      · have : V.int i ≠ V.int j := fun z => h (V.int.inj z)
        rw [decide_eq_false this]
        exact beq_eq_false_iff_ne.mpr h
theorem Flats.eqv : ∀ {vs vs' : List V} {ds ds' : List PyData}, Flats vs ds → Flats vs' ds' → PyData.eqvAll ds ds' = decide (vs = vs')
  | _, _, _, _, .nil, .nil => by simp [PyData.eqvAll]
  | _, _, _, _, .nil, .cons f t => by simp [PyData.eqvAll]
  | _, _, _, _, .cons f t, .nil => by simp [PyData.eqvAll]
  | x :: xs, y :: ys, _, _, .cons f t, .cons f' t' => by
    simp only [PyData.eqvAll]
    rw [f.eqv f', Flats.eqv t t']
    by_cases h1 : x = y
    · by_cases h2 : xs = ys
      · simp [h1, h2]
      · simp [h1, h2]
    · simp [h1]
theorem flats_ints : ∀ ns : List Int, Flats (ns.map V.int) (ns.map PyData.int)
  | [] => .nil
  | n :: ns => .cons (.int n) (flats_ints ns)
def keyD : Option Nat → PyData
  | none => .none
  | some n => .int (n : Int)
theorem flats_keys : ∀ g : List (Option Nat), Flats (g.map keyV) (g.map keyD)
  | [] => .nil
  | .none :: g => .cons .non (flats_keys g)
  | .some n :: g => .cons (.int _) (flats_keys g)
/-- a tuple of flat items, as data -/
theorem dp_tup {K : PySem.W.Frag} {H : Hp} {a : Addr} {vs : List V} {ds : List PyData} (h : SqT K H a vs) (f : Flats vs ds) : Dp K H (.ref a) (.tuple ds) := .tup h f.dp
theorem tup_eqv {vs vs' : List V} {ds ds' : List PyData} (f : Flats vs ds) (f' : Flats vs' ds') : PyData.eqv (.tuple ds) (.tuple ds') = decide (vs = vs') := by
  simp only [PyData.eqv]
  exact f.eqv f'
/-- lists of tuples of flat items -/
structure FRow (K : PySem.W.Frag) (H : Hp) (t : Addr) (d : PyData) : Prop where
  ex : ∃ vs ds, SqT K H t vs ∧ Flats vs ds ∧ d = .tuple ds
theorem rows_dp {K : PySem.W.Frag} {H : Hp} : ∀ {ts : List Addr} {ds : List PyData}, Paired (FRow K H) ts ds → DpAll K H (ts.map V.ref) ds ∧ PyData.canLayAll0 ds = true ∧ PyData.depthAll ds ≤ 1
  | _, _, .nil => ⟨.nil, by simp [PyData.canLayAll0], by simp [PyData.depthAll]⟩
  | _, _, .cons h t => by
    obtain ⟨vs, ds, h1, h2, rfl⟩ := h.ex
    obtain ⟨r1, r2, r3⟩ := rows_dp t
    obtain ⟨l1, l2⟩ := h2.lay
    refine ⟨.cons (dp_tup h1 h2) r1, ?_, ?_⟩
    · simp only [PyData.canLayAll0, PyData.canLay0, l1, r2, Bool.and_self]
    · simp only [PyData.depthAll, PyData.depth, l2]
      omega
theorem rows_shaped {K : PySem.W.Frag} {H : Hp} {ts : List Addr} {ds : List PyData} (h : Paired (FRow K H) ts ds) : SeqAt.shaped (.list ds) = true := by
  obtain ⟨_, h3, h4⟩ := rows_dp h
  show (PyData.canLay0 (.list ds) && decide (PyData.depth (.list ds) ≤ 64)) = true
  rw [Bool.and_eq_true]
  exact ⟨by simp only [PyData.canLay0]; exact h3, decide_eq_true (by simp only [PyData.depth]; omega)⟩
theorem nil_shaped : SeqAt.shaped (.list []) = true := by
  show (PyData.canLay0 (.list []) && decide (PyData.depth (.list []) ≤ 64)) = true
  simp [PyData.canLay0, PyData.canLayAll0, PyData.depth, PyData.depthAll]
/-- the rows of a list, as data -/
theorem rows_of {K : PySem.W.Frag} {H : Hp} : ∀ {ts : List Addr} (_ : ∀ t ∈ ts, ∃ vs ds, SqT K H t vs ∧ Flats vs ds), ∃ ds, Paired (FRow K H) ts ds
  | [], _ => ⟨[], .nil⟩
  | t :: ts, h => by
    obtain ⟨vs, ds, h1, h2⟩ := h t List.mem_cons_self
    obtain ⟨r, hr⟩ := rows_of (ts := ts) fun t ht => h t (List.mem_cons_of_mem _ ht)
    exact ⟨_, .cons ⟨vs, ds, h1, h2, rfl⟩ hr⟩
theorem rows_nil {K : PySem.W.Frag} {H : Hp} {ts : List Addr} {ds : List PyData} (h : Paired (FRow K H) ts ds) : PyData.eqv (.list ds) (.list []) = decide (ts = []) := by
  cases h with
  | nil => simp [PyData.eqv, PyData.eqvAll]
  | cons _ _ => simp [PyData.eqv, PyData.eqvAll]
/-- a giving, as data -/
def gD (g : List (Option Nat)) : PyData := .tuple (g.map keyD)
theorem gD_eqv (g g' : List (Option Nat)) : PyData.eqv (gD g) (gD g') = decide (g = g') := by
  unfold gD
  rw [tup_eqv (flats_keys g) (flats_keys g')]
  by_cases h : g = g'
  · simp [h]
  · rw [decide_eq_false h]
    refine decide_eq_false fun z => h ?_
    have key : ∀ (a b : List (Option Nat)), a.map keyV = b.map keyV → a = b := by
      intro a
      induction a with
      | nil => intro b e; cases b with
        | nil => rfl
        | cons _ _ => cases e
      | cons x a ih => intro b e; cases b with
        | nil => cases e
        | cons y b =>
          rw [List.map_cons, List.map_cons] at e
          injection e with e1 e2
          rw [keyV_inj e1, ih b e2]
    exact key g g' z
theorem gD_shaped (g : List (Option Nat)) : SeqAt.shaped (gD g) = true := (flats_keys g).shaped
abbrev Givs (K : PySem.W.Frag) (H : Hp) : List Addr → List (List (Option Nat)) → Prop := Paired fun t g => SqT K H t (g.map keyV)
theorem givs_rows {K : PySem.W.Frag} {H : Hp} : ∀ {ts : List Addr} {gs : List (List (Option Nat))}, Givs K H ts gs → Paired (FRow K H) ts (gs.map gD)
  | _, _, .nil => .nil
  | _, _, .cons (b := g) h t => .cons ⟨_, _, h, flats_keys g, rfl⟩ (givs_rows t)
theorem givs_any (g : List (Option Nat)) (gs : List (List (Option Nat))) : ((gs.map gD).any fun z => PyData.eqv z (gD g)) = decide (g ∈ gs) := by
  induction gs with
  | nil => simp
  | cons x gs ih =>
    rw [List.map_cons, List.any_cons, ih, gD_eqv]
    by_cases h : x = g
    · simp [h]
    · have : g ≠ x := Ne.symm h
      simp [h, this]
theorem fl_flats (f : Nat → Int) (n : Nat) : ∃ ds, Flats (fl (fun j => .int (f j)) n) ds := by
  have := flats_ints ((List.range n).map f)
  rw [List.map_map] at this
  exact ⟨_, this⟩
/-! ### fields -/
theorem putF_app {f : Str} {v : V} : ∀ {fs : List (Str × V)}, (∀ p ∈ fs, p.1 ≠ f) → putF f v fs = fs ++ [(f, v)]
  | [], _ => rfl
  | (g, x) :: r, h => by
    show (if g = f then (g, v) :: r else (g, x) :: putF f v r) = (g, x) :: (r ++ [(f, v)])
    rw [if_neg (h (g, x) List.mem_cons_self), putF_app fun p hp => h p (List.mem_cons_of_mem _ hp)]
end G3

set_option Elab.async false
set_option linter.all false
set_option maxRecDepth 100000
set_option maxHeartbeats 2000000
namespace G3
open PySem PySem.Spec PyProof.Rows L2
/-! ### Search.__init__ -/
theorem fl_snoc (f : Nat → V) (n : Nat) : fl f (n + 1) = fl f n ++ [f n] := by
  unfold fl
  rw [List.range_succ, List.map_append]
  rfl
theorem fl_append (f g : Nat → V) (a b : Nat) : fl f a ++ fl g b = fl (fun j => if j < a then f j else g (j - a)) (a + b) := by
  induction b with
  | zero =>
    rw [Nat.add_zero]
    show fl f a ++ [] = _
    rw [List.append_nil]
    exact fl_congr fun i hi => (if_pos hi).symm
  | succ b ih =>
    rw [fl_snoc, ← List.append_assoc, ih, ← Nat.add_assoc, fl_snoc, if_neg (by omega), Nat.add_sub_cancel_left]
/-- the cost of a row at a column -/
def costW (W : Nat → Nat → Int) (wide : Nat) (i j : Nat) : Int := if j < wide then 0 - W i j else 0
def spInit (C : Addr) (K : PySem.W.Frag) (T : TbA) : Sp := fun vs H Q _ => ∃ (p dx o : Addr) (ts : List Addr) (W : Nat → Nat → Int) (wide n : Nat), vs = [.ref p, .ref o] ∧ H p = some (.ins C dx []) ∧ SqL K H o (ts.map V.ref) ∧ ts.length = n ∧ 0 < n ∧ (∀ i t, ts[i]? = some t → SqT K H t (fl (fun j => .int (W i j)) wide)) ∧ n ≤ 100 ∧ wide ≤ 100 ∧
  ∀ H' ac al ar ao rs, Xo T (fun b => b = p) H H' → SA C H' p dx ac al ar ao rs wide n (wide + n) (costW W wide) (fun _ => 0) (fun _ => 0) (fun _ => none) → H al = none → H ar = none → H ao = none → Q .non H'
theorem putF_app' {f : Str} {v : V} {fs : List (Str × V)} (h : ((fs.map (·.1)).all fun g => !decide (g = f)) = true) : putF f v fs = fs ++ [(f, v)] := putF_app fun q hq z => by
  have := List.all_eq_true.mp h q.1 (List.mem_map.mpr ⟨q, hq, rfl⟩)
  rw [decide_eq_true z] at this
  cases this
abbrev fd1 (wide : Nat) : List (Str × V) := [("wide", iv wide)]
abbrev fd2 (wide n : Nat) : List (Str × V) := [("wide", iv wide), ("many", iv n)]
abbrev fd3 (wide n : Nat) (ac : Addr) : List (Str × V) := [("wide", iv wide), ("many", iv n), ("costs", .ref ac)]
abbrev fd4 (wide n : Nat) (ac al : Addr) : List (Str × V) := [("wide", iv wide), ("many", iv n), ("costs", .ref ac), ("left", .ref al)]
abbrev fd5 (wide n : Nat) (ac al ar : Addr) : List (Str × V) := [("wide", iv wide), ("many", iv n), ("costs", .ref ac), ("left", .ref al), ("right", .ref ar)]
theorem Xo.sLp {T : TbA} {K : PySem.W.Frag} {H H1 : Hp} {p C dx a : Addr} {fs : List (Str × V)} {xs : List V} (x : Xo T (fun b => b = p) H H1) (hp : H p = some (.ins C dx fs)) (h : SqL K H a xs) : SqL K H1 a xs := by
  rcases h with (h | ⟨o, h⟩) | h
  · exact .inl (.inl (x.keep a _ h (fun z => by rw [z, hp] at h; cases h) fun ps z => by cases z))
  · exact .inl (.inr ⟨o, x.keep a _ h (fun z => by rw [z, hp] at h; cases h) fun ps z => by cases z⟩)
  · exact .inr h
theorem Xo.sTp {T : TbA} {K : PySem.W.Frag} {H H1 : Hp} {p C dx a : Addr} {fs : List (Str × V)} {xs : List V} (x : Xo T (fun b => b = p) H H1) (hp : H p = some (.ins C dx fs)) (h : SqT K H a xs) : SqT K H1 a xs := by
  rcases h with (h | ⟨o, h⟩) | h
  · exact .inl (.inl (x.keep a _ h (fun z => by rw [z, hp] at h; cases h) fun ps z => by cases z))
  · exact .inl (.inr ⟨o, x.keep a _ h (fun z => by rw [z, hp] at h; cases h) fun ps z => by cases z⟩)
  · exact .inr h
abbrev initN : List Str := ["self", "rows", "row", "worth"]
theorem scInit : FnScope initN ["self", "rows"] (defScope sInit) := ⟨rfl, rfl, rfl, by decide +kernel, rfl, by decide +kernel, by decide +kernel⟩
abbrev scRow : Scope := { kind := .function, names := [(".0", .local), ("row", .local), ("self", .cell)], isGenerator := false, isCoroutine := false, more := [] }
abbrev scCell : Scope := { kind := .function, names := [(".0", .local), ("worth", .local)], isGenerator := false, isCoroutine := false, more := [] }
abbrev teRow (K : PySem.W.Frag) : TE := tOp rCat (tLc (iTup K (tVar 2)) (gName 3) tYes (tOp (rI0 fun i j => .int (i - j)) (tC (.int 0)) (tVar 3)) [3]) (tOp rRep (tLst (tCons (tC (.int 0)) tNil)) (tFld K (tVar 0) "many"))
section
variable {P : Program} {w : World} {K : PySem.W.Frag} {mg : Str → Option Value} {base : Heap} {T : TbA}
theorem ok_init {f C : Addr} {fd : FuncData} (F : Fun K "__init__" "Search.__init__" sInit f fd) (B : Blt mg) (X : TxS K mg C) : FnOk P w K mg base CX0 1 f fd ["self", "rows"] (spInit C K T) := by
  refine F.ok scInit (fun vs H Q E h => ?_) (fun cdv A outer s H vs Q E hr h => ?_)
  · obtain ⟨p, dx, o, ts, W, wide, n, rfl, _⟩ := h
    rfl
  · obtain ⟨p, dx, o, ts, W, wide, n, rfl, hp, hL, hn, hn0, ht, hn1, hw, q⟩ := h
    refine ⟨_, pss_cons (ps_fld (pv 0) (pe_ifExp (pt_cmpR (op_neD hr.units) (pv 1) (pe_lst pa_nil) (nomark _)) (pe_callB call_len_seq (by rfl) B.len PySem.boot_len (pa_cons (pe_ix ix_list (pv 1) pe_int (fun _ _ => rfl)) pa_nil)) pe_int) rfl)
      (pss_cons (ps_fld (pv 0) (pe_callB call_len_seq (by rfl) B.len PySem.boot_len (pa_cons (pv 1) pa_nil)) rfl)
      (pss_cons (ps_fld (pv 0) (pe_lc (own := [("row", 2)]) (g := gName 2) (tt := tYes) (te := teRow K) rfl scInit.nd (pi_list (pv 1)) (blkOk_by (N := initN) (sc := defScope sInit) (by decide +kernel)) (fun _ _ _ _ _ => pg_name (i := 2) scInit.nd rfl (Or.inl rfl)) (fun _ _ _ _ _ => pts_nil)
          (fun _ _ _ _ _ => pe_op op_cat (pe_lc (own := [("worth", 3)]) (g := gName 3) (tt := tYes) rfl scInit.nd (pi_tup (pv 2)) (blkOk_by (own := [("worth", 3)]) (N := initN) (sc := scRow) (scope := scCell) (by decide +kernel)) (fun _ _ _ _ _ => pg_name (i := 3) scInit.nd rfl (Or.inl rfl)) (fun _ _ _ _ _ => pts_nil) (fun _ _ _ _ _ => pe_op op_sub pe_int (pv 3)))
            (pe_op op_rep (pe_lst (pa_cons pe_int pa_nil)) (pe_fld (pv 0) rfl)))) rfl)
      (pss_cons (ps_fld (pv 0) (pe_op op_rep (pe_lst (pa_cons pe_int pa_nil)) (pe_fld (pv 0) rfl)) rfl)
      (pss_cons (ps_fld (pv 0) (pe_op op_rep (pe_lst (pa_cons pe_int pa_nil)) (pe_op op_add (pe_fld (pv 0) rfl) (pe_fld (pv 0) rfl))) rfl)
      (pss_one (ps_fld (pv 0) (pe_op op_rep (pe_lst (pa_cons pe_non pa_nil)) (pe_op op_add (pe_fld (pv 0) rfl) (pe_fld (pv 0) rfl))) rfl)))))), ?_⟩
    -- self.wide
    obtain ⟨ds, hds⟩ := rows_of (K := K) (H := H) (ts := ts) fun t ht' => by
      obtain ⟨i, hi, rfl⟩ := List.getElem_of_mem ht'
      obtain ⟨d, hd⟩ := fl_flats (W i) wide
      exact ⟨_, d, ht i _ (List.getElem?_eq_getElem hi), hd⟩
    have tne : ts ≠ [] := fun z => by rw [z] at hn; simp at hn; omega
    obtain ⟨t0, e0⟩ : ∃ t0, ts[0]? = some t0 := ⟨_, List.getElem?_eq_getElem (by omega)⟩
    refine ⟨_, rfl, Nat.zero_le _, fun e he => ?_⟩
    have xe : Xo T nM H (upd H e (.lst [])) := .new1 he
    have hds' : Paired (FRow K (upd H e (.lst []))) ts ds := Paired.mapP hds fun t d ⟨vs, d', h1, h2, h3⟩ => ⟨vs, d', xe.sT h1, h2, h3⟩
    refine ⟨.list ds, .list [], .lst (xe.sL hL) (rows_dp hds').1, .lst (SqL.of upd_same) .nil, rows_shaped hds', nil_shaped, _, rfl, ?_⟩
    rw [rows_nil hds', decide_eq_false tne]
    refine iteT ?_
    have hp1 : upd H e (.lst []) p = some (.ins C dx []) := by rw [upd_ne (ne_of_none hp he)]; exact hp
    refine ⟨_, rfl, o, _, _, .ref t0, rfl, rfl, xe.sL hL, atI_nat (j := 0) (by rw [List.getElem?_map, e0]; rfl), t0, _, rfl, .inr (xe.sT (ht 0 t0 e0)), _, rfl, p, C, dx, _, rfl, hp1, X.cl, X.nW, (by show 0 < 1000; decide), ?_⟩
    have eF1 : putF "wide" (V.int (wide : Nat)) [] = fd1 wide := putF_app' (by rfl)
    rw [fl_len, eF1]
    have x1 : Xo T (fun b => b = p) H (upd (upd H e (.lst [])) p (.ins C dx (fd1 wide))) := (xe.mono fun _ z => z.elim).mut (.inr rfl) (by rw [hp1]; exact Soft.ins)
    have hp2 : upd (upd H e (.lst [])) p (.ins C dx (fd1 wide)) p = some (.ins C dx (fd1 wide)) := upd_same
    generalize upd (upd H e (.lst [])) p (.ins C dx (fd1 wide)) = Ha at x1 hp2 ⊢
    -- self.many
    refine ⟨_, rfl, o, _, rfl, .inl (x1.sLp hp hL), _, rfl, p, C, dx, _, rfl, hp2, X.cl, X.nM, (by show 1 < 1000; decide), ?_⟩
    have eF2 : putF "many" (V.int (n : Nat)) (fd1 wide) = fd2 wide n := putF_app' (by rfl)
    rw [List.length_map, hn, eF2]
    have x2 : Xo T (fun b => b = p) H (upd Ha p (.ins C dx (fd2 wide n))) := x1.mut (.inr rfl) (by rw [hp2]; exact Soft.ins)
    have hp3 : upd Ha p (.ins C dx (fd2 wide n)) p = some (.ins C dx (fd2 wide n)) := upd_same
    generalize upd Ha p (.ins C dx (fd2 wide n)) = Hb at x2 hp3 ⊢
    -- self.costs
    refine ⟨_, rfl, o, rfl, ⟨_, x2.sLp hp hL⟩, fun D hD => lc_list (K := K) (a := o) (xs := ts.map V.ref) (fun i H' => Xo T (fun b => b = p) H H' ∧ H' p = some (.ins C dx (fd2 wide n)) ∧ ∃ rs : List Addr, H' D = some (.lst (rs.map V.ref)) ∧ rs.length = i ∧
      ∀ k r, rs[k]? = some r → r ≠ D ∧ r ≠ p ∧ H' r = some (.lst (fl (fun j => .int (costW W wide k j)) (wide + n))))
      ⟨x2.new hD, by rw [upd_ne (ne_of_none hp3 hD)]; exact hp3, [], upd_same, rfl, fun k r e => by simp at e⟩ (fun i H' _ ⟨x, _⟩ => x.sLp hp hL) (fun i x H' hi ⟨hx, hxp, rs, hDt, hrl, hrs⟩ => ?_) (fun H' ⟨hx, hxp, rs, hDt, hrl, hrs⟩ => ?_)⟩
    · rw [List.getElem?_map] at hi
      cases et : ts[i]? with
      | none => rw [et] at hi; cases hi
      | some t =>
        rw [et] at hi
        obtain rfl : V.ref t = x := Option.some.inj hi
        have hil := (List.getElem?_eq_some_iff.mp et).1
        refine ⟨rfl, ?_⟩
        refine ⟨_, rfl, t, rfl, ⟨_, hx.sTp hp (ht i t et)⟩, fun D2 hD2 => lc_tup (K := K) (a := t) (xs := fl (fun j => .int (W i j)) wide) (fun j H'' => Xo T nM H' H'' ∧ H'' D2 = some (.lst (fl (fun j => .int (0 - W i j)) j)))
          ⟨Xo.new1 hD2, upd_same⟩ (fun j H'' _ ⟨y, _⟩ => y.sT (hx.sTp hp (ht i t et))) (fun j x H'' hj ⟨y, hy⟩ => ?_) (fun H'' ⟨y, hy⟩ => ?_)⟩
        · have hjw : j < wide := by
            have := (List.getElem?_eq_some_iff.mp hj).1
            rw [fl_len] at this
            exact this
          rw [fl_get hjw] at hj
          obtain rfl : V.int (W i j) = x := Option.some.inj hj
          refine ⟨rfl, ?_⟩
          refine ⟨_, rfl, _, _, rfl, rfl, _, hy, by rw [fl_len, sizeLine_eq]; omega, y.mut (.inl hD2) (by rw [hy]; exact Soft.lst), ?_⟩
          rw [upd_same, ← fl_snoc]
        · rw [fl_len] at hy
          refine ⟨by show 1 ≤ sizeLine; decide, fun t1 h1 => ?_⟩
          have y1 := y.new (o := .lst [.int 0]) h1
          refine ⟨_, rfl, p, C, dx, _, _, rfl, y1.keep _ _ hxp (fun z => z) (fun ps z => by cases z), X.cl, X.nM, rfl, t1, _, _, rfl, rfl, upd_same, by omega, by omega, by show 1 * ((n : Int)).toNat ≤ sizeLine; rw [Int.toNat_natCast, sizeLine_eq]; omega, fun z hz => ?_⟩
          rw [rep_fl]
          have y2 := y1.new (o := .lst (fl (fun _ => .int 0) n)) hz
          have hD2' : upd (upd H'' t1 (.lst [.int 0])) z (.lst (fl (fun _ => .int 0) n)) D2 = some (.lst (fl (fun j => .int (0 - W i j)) wide)) := (Xo.new (T := T) (M := nM) (.new1 h1) hz).lst hy (fun z => z)
          refine ⟨D2, z, _, _, rfl, rfl, hD2', upd_same, by rw [fl_len, fl_len, sizeLine_eq]; omega, fun r hr => ?_⟩
          have y3 := y2.new (o := .lst (fl (fun j => .int (0 - W i j)) wide ++ fl (fun _ => .int 0) n)) hr
          have hDr := y3.lst hDt (fun z => z)
          have hpr := y3.keep _ _ hxp (fun z => z) (fun ps z => by cases z)
          have nD : H D = none := x2.free hD (ne_of_none hp3 hD).symm
          have hrD : r ≠ D := (ne_of_none (y2.lst hDt (fun z => z)) hr).symm
          have hrp : r ≠ p := (ne_of_none (y2.keep _ _ hxp (fun z => z) (fun ps z => by cases z)) hr).symm
          have hpD : p ≠ D := ne_of hpr hDr (by intro z; cases z)
          refine ⟨_, hDr, by rw [List.length_map, hrl, sizeLine_eq]; omega, (hx.trans (y3.mono fun _ z => z.elim)).mut (.inl nD) (by rw [hDr]; exact Soft.lst), by rw [upd_ne hpD]; exact hpr, rs ++ [r], ?_, ?_, fun k r' e => ?_⟩
          · rw [upd_same, List.map_append]
            rfl
          · rw [List.length_append, List.length_singleton, hrl]
          · by_cases hk : k < rs.length
            · rw [List.getElem?_append_left hk] at e
              obtain ⟨a1, a2, a3⟩ := hrs k r' e
              exact ⟨a1, a2, by rw [upd_ne a1]; exact y3.lst a3 (fun z => z)⟩
            · have hk2 : k = rs.length := by
                have := (List.getElem?_eq_some_iff.mp e).1
                rw [List.length_append, List.length_singleton] at this
                omega
              rw [hk2, List.getElem?_append_right (Nat.le_refl _), Nat.sub_self] at e
              obtain rfl : r = r' := Option.some.inj e
              refine ⟨hrD, hrp, ?_⟩
              rw [upd_ne hrD, upd_same, hk2, hrl, fl_append]
              congr 2
              refine fl_congr fun j hj => ?_
              unfold costW
              by_cases h : j < wide
              · rw [if_pos h, if_pos h]
              · rw [if_neg h, if_neg h]
    · have eF3 : putF "costs" (V.ref D) (fd2 wide n) = fd3 wide n D := putF_app' (by rfl)
      rw [List.length_map] at hrl
      refine ⟨_, rfl, p, C, dx, _, rfl, hxp, X.cl, X.nC, (by show 2 < 1000; decide), ?_⟩
      rw [eF3]
      have nD : H D = none := x2.free hD (ne_of_none hp3 hD).symm
      have hpD : p ≠ D := ne_of hxp hDt (by intro z; cases z)
      have x3 : Xo T (fun b => b = p) H (upd H' p (.ins C dx (fd3 wide n D))) := hx.mut (.inr rfl) (by rw [hxp]; exact Soft.ins)
      have hp4 : upd H' p (.ins C dx (fd3 wide n D)) p = some (.ins C dx (fd3 wide n D)) := upd_same
      have hD4 : upd H' p (.ins C dx (fd3 wide n D)) D = some (.lst (rs.map V.ref)) := by rw [upd_ne hpD.symm]; exact hDt
      have hr4 : ∀ k r, rs[k]? = some r → r ≠ D ∧ r ≠ p ∧ upd H' p (.ins C dx (fd3 wide n D)) r = some (.lst (fl (fun j => .int (costW W wide k j)) (wide + n))) := fun k r e => by
        obtain ⟨a1, a2, a3⟩ := hrs k r e
        exact ⟨a1, a2, by rw [upd_ne a2]; exact a3⟩
      generalize upd H' p (.ins C dx (fd3 wide n D)) = Hc at x3 hp4 hD4 hr4 ⊢
      -- self.left
      refine ⟨by show 1 ≤ sizeLine; decide, fun t1left h1left => ?_⟩
      have w1left : upd Hc t1left (.lst [.int 0]) p = some (.ins C dx (fd3 wide n D)) := by rw [upd_ne (ne_of_none hp4 h1left)]; exact hp4
      refine ⟨_, rfl, p, C, dx, _, _, rfl, w1left, X.cl, X.nM, rfl, t1left, _, _, rfl, rfl, upd_same, by omega, by omega, by show 1 * ((n : Int)).toNat ≤ sizeLine; rw [Int.toNat_natCast, sizeLine_eq]; omega, fun al hal => ?_⟩
      rw [rep_fl]
      have xxleft : Xo T nM Hc (upd (upd Hc t1left (.lst [.int 0])) al (.lst (fl (fun _ => .int 0) n))) := (Xo.new1 h1left).new hal
      have w2left : upd (upd Hc t1left (.lst [.int 0])) al (.lst (fl (fun _ => .int 0) n)) p = some (.ins C dx (fd3 wide n D)) := by rw [upd_ne (ne_of_none w1left hal)]; exact w1left
      have w3left : upd (upd Hc t1left (.lst [.int 0])) al (.lst (fl (fun _ => .int 0) n)) al = some (.lst (fl (fun _ => .int 0) n)) := upd_same
      have nal : H al = none := (x3.trans ((Xo.new1 (T := T) (M := nM) (o := .lst [.int 0]) h1left).mono fun _ z => z.elim)).free hal (ne_of_none w1left hal).symm
      have pal : p ≠ al := ne_of_none w1left hal
      have gDal : D ≠ al := ne_of_none (by rw [upd_ne (ne_of_none hD4 h1left)]; exact hD4 : upd Hc t1left (.lst [.int 0]) D = _) hal
      have eFleft : putF "left" (V.ref al) (fd3 wide n D) = fd4 wide n D al := putF_app' (by rfl)
      refine ⟨_, rfl, p, C, dx, _, rfl, w2left, X.cl, X.nL, (by show 3 < 1000; decide), ?_⟩
      rw [eFleft]
      have x4 : Xo T (fun b => b = p) H (upd (upd (upd Hc t1left (.lst [.int 0])) al (.lst (fl (fun _ => .int 0) n))) p (.ins C dx (fd4 wide n D al))) := (x3.trans (xxleft.mono fun _ z => z.elim)).mut (.inr rfl) (by rw [w2left]; exact Soft.ins)
      have hp5 : upd (upd (upd Hc t1left (.lst [.int 0])) al (.lst (fl (fun _ => .int 0) n))) p (.ins C dx (fd4 wide n D al)) p = some (.ins C dx (fd4 wide n D al)) := upd_same
      have hD4left : upd (upd (upd Hc t1left (.lst [.int 0])) al (.lst (fl (fun _ => .int 0) n))) p (.ins C dx (fd4 wide n D al)) D = _ := (upd_ne (ne_of hp4 hD4 (by intro z; cases z)).symm).trans (xxleft.lst hD4 (fun z => z))
      have halleft : upd (upd (upd Hc t1left (.lst [.int 0])) al (.lst (fl (fun _ => .int 0) n))) p (.ins C dx (fd4 wide n D al)) al = some (.lst (fl (fun _ => .int 0) n)) := (upd_ne pal.symm).trans w3left
      have hr5 : ∀ k r, rs[k]? = some r → (r ≠ D ∧ r ≠ p ∧ upd (upd (upd Hc t1left (.lst [.int 0])) al (.lst (fl (fun _ => .int 0) n))) p (.ins C dx (fd4 wide n D al)) r = some (.lst (fl (fun j => .int (costW W wide k j)) (wide + n)))) ∧ r ≠ al := fun k r e => by
        obtain ⟨a1, a2, a3⟩ := hr4 k r e
        have a4 : r ≠ al := ne_of_none (by rw [upd_ne (ne_of_none a3 h1left)]; exact a3 : upd Hc t1left (.lst [.int 0]) r = _) hal
        exact ⟨⟨a1, a2, (upd_ne a2).trans (xxleft.lst a3 (fun z => z))⟩, a4⟩
      generalize upd (upd (upd Hc t1left (.lst [.int 0])) al (.lst (fl (fun _ => .int 0) n))) p (.ins C dx (fd4 wide n D al)) = Hd at x4 hp5 hD4left halleft hr5 ⊢
      -- self.right
      refine ⟨by show 1 ≤ sizeLine; decide, fun t1right h1right => ?_⟩
      have w1right : upd Hd t1right (.lst [.int 0]) p = some (.ins C dx (fd4 wide n D al)) := by rw [upd_ne (ne_of_none hp5 h1right)]; exact hp5
      refine ⟨_, rfl, p, C, dx, _, _, rfl, w1right, X.cl, X.nW, rfl, _, rfl, p, C, dx, _, _, rfl, w1right, X.cl, X.nM, rfl, _, _, rfl, rfl, ?_⟩
      have eSright : (V.int ((wide : Nat) + (n : Nat) : Int)) = V.int ((wide + n : Nat) : Int) := by rw [Int.natCast_add]
      refine ⟨t1right, ((wide + n : Nat) : Int), _, rfl, eSright, upd_same, by omega, by omega, by show 1 * (((wide + n : Nat) : Int)).toNat ≤ sizeLine; rw [Int.toNat_natCast, sizeLine_eq]; omega, fun ar har => ?_⟩
      rw [rep_fl]
      have xxright : Xo T nM Hd (upd (upd Hd t1right (.lst [.int 0])) ar (.lst (fl (fun _ => .int 0) (wide + n)))) := (Xo.new1 h1right).new har
      have w2right : upd (upd Hd t1right (.lst [.int 0])) ar (.lst (fl (fun _ => .int 0) (wide + n))) p = some (.ins C dx (fd4 wide n D al)) := by rw [upd_ne (ne_of_none w1right har)]; exact w1right
      have w3right : upd (upd Hd t1right (.lst [.int 0])) ar (.lst (fl (fun _ => .int 0) (wide + n))) ar = some (.lst (fl (fun _ => .int 0) (wide + n))) := upd_same
      have nar : H ar = none := (x4.trans ((Xo.new1 (T := T) (M := nM) (o := .lst [.int 0]) h1right).mono fun _ z => z.elim)).free har (ne_of_none w1right har).symm
      have par : p ≠ ar := ne_of_none w1right har
      have gDar : D ≠ ar := ne_of_none (by rw [upd_ne (ne_of_none hD4left h1right)]; exact hD4left : upd Hd t1right (.lst [.int 0]) D = _) har
      have galar : al ≠ ar := ne_of_none (by rw [upd_ne (ne_of_none halleft h1right)]; exact halleft : upd Hd t1right (.lst [.int 0]) al = _) har
      have eFright : putF "right" (V.ref ar) (fd4 wide n D al) = fd5 wide n D al ar := putF_app' (by rfl)
      refine ⟨_, rfl, p, C, dx, _, rfl, w2right, X.cl, X.nR, (by show 4 < 1000; decide), ?_⟩
      rw [eFright]
      have x5 : Xo T (fun b => b = p) H (upd (upd (upd Hd t1right (.lst [.int 0])) ar (.lst (fl (fun _ => .int 0) (wide + n)))) p (.ins C dx (fd5 wide n D al ar))) := (x4.trans (xxright.mono fun _ z => z.elim)).mut (.inr rfl) (by rw [w2right]; exact Soft.ins)
      have hp6 : upd (upd (upd Hd t1right (.lst [.int 0])) ar (.lst (fl (fun _ => .int 0) (wide + n)))) p (.ins C dx (fd5 wide n D al ar)) p = some (.ins C dx (fd5 wide n D al ar)) := upd_same
      have hD4leftright : upd (upd (upd Hd t1right (.lst [.int 0])) ar (.lst (fl (fun _ => .int 0) (wide + n)))) p (.ins C dx (fd5 wide n D al ar)) D = _ := (upd_ne (ne_of hp5 hD4left (by intro z; cases z)).symm).trans (xxright.lst hD4left (fun z => z))
      have halleftright : upd (upd (upd Hd t1right (.lst [.int 0])) ar (.lst (fl (fun _ => .int 0) (wide + n)))) p (.ins C dx (fd5 wide n D al ar)) al = _ := (upd_ne (ne_of hp5 halleft (by intro z; cases z)).symm).trans (xxright.lst halleft (fun z => z))
      have harright : upd (upd (upd Hd t1right (.lst [.int 0])) ar (.lst (fl (fun _ => .int 0) (wide + n)))) p (.ins C dx (fd5 wide n D al ar)) ar = some (.lst (fl (fun _ => .int 0) (wide + n))) := (upd_ne par.symm).trans w3right
      have hr6 : ∀ k r, rs[k]? = some r → (r ≠ D ∧ r ≠ p ∧ upd (upd (upd Hd t1right (.lst [.int 0])) ar (.lst (fl (fun _ => .int 0) (wide + n)))) p (.ins C dx (fd5 wide n D al ar)) r = some (.lst (fl (fun j => .int (costW W wide k j)) (wide + n)))) ∧ r ≠ al ∧ r ≠ ar := fun k r e => by
        obtain ⟨⟨a1, a2, a3⟩, b1⟩ := hr5 k r e
        have a4 : r ≠ ar := ne_of_none (by rw [upd_ne (ne_of_none a3 h1right)]; exact a3 : upd Hd t1right (.lst [.int 0]) r = _) har
        exact ⟨⟨a1, a2, (upd_ne a2).trans (xxright.lst a3 (fun z => z))⟩, b1, a4⟩
      generalize upd (upd (upd Hd t1right (.lst [.int 0])) ar (.lst (fl (fun _ => .int 0) (wide + n)))) p (.ins C dx (fd5 wide n D al ar)) = He at x5 hp6 hD4leftright halleftright harright hr6 ⊢
      -- self.owner
      refine ⟨by show 1 ≤ sizeLine; decide, fun t1owner h1owner => ?_⟩
      have w1owner : upd He t1owner (.lst [.non]) p = some (.ins C dx (fd5 wide n D al ar)) := by rw [upd_ne (ne_of_none hp6 h1owner)]; exact hp6
      refine ⟨_, rfl, p, C, dx, _, _, rfl, w1owner, X.cl, X.nW, rfl, _, rfl, p, C, dx, _, _, rfl, w1owner, X.cl, X.nM, rfl, _, _, rfl, rfl, ?_⟩
      have eSowner : (V.int ((wide : Nat) + (n : Nat) : Int)) = V.int ((wide + n : Nat) : Int) := by rw [Int.natCast_add]
      refine ⟨t1owner, ((wide + n : Nat) : Int), _, rfl, eSowner, upd_same, by omega, by omega, by show 1 * (((wide + n : Nat) : Int)).toNat ≤ sizeLine; rw [Int.toNat_natCast, sizeLine_eq]; omega, fun ao hao => ?_⟩
      rw [rep_fl]
      have xxowner : Xo T nM He (upd (upd He t1owner (.lst [.non])) ao (.lst (fl (fun _ => .non) (wide + n)))) := (Xo.new1 h1owner).new hao
      have w2owner : upd (upd He t1owner (.lst [.non])) ao (.lst (fl (fun _ => .non) (wide + n))) p = some (.ins C dx (fd5 wide n D al ar)) := by rw [upd_ne (ne_of_none w1owner hao)]; exact w1owner
      have w3owner : upd (upd He t1owner (.lst [.non])) ao (.lst (fl (fun _ => .non) (wide + n))) ao = some (.lst (fl (fun _ => .non) (wide + n))) := upd_same
      have nao : H ao = none := (x5.trans ((Xo.new1 (T := T) (M := nM) (o := .lst [.non]) h1owner).mono fun _ z => z.elim)).free hao (ne_of_none w1owner hao).symm
      have pao : p ≠ ao := ne_of_none w1owner hao
      have gDao : D ≠ ao := ne_of_none (by rw [upd_ne (ne_of_none hD4leftright h1owner)]; exact hD4leftright : upd He t1owner (.lst [.non]) D = _) hao
      have galao : al ≠ ao := ne_of_none (by rw [upd_ne (ne_of_none halleftright h1owner)]; exact halleftright : upd He t1owner (.lst [.non]) al = _) hao
      have garao : ar ≠ ao := ne_of_none (by rw [upd_ne (ne_of_none harright h1owner)]; exact harright : upd He t1owner (.lst [.non]) ar = _) hao
      have eFowner : putF "owner" (V.ref ao) (fd5 wide n D al ar) = flds wide n D al ar ao := putF_app' (by rfl)
      refine ⟨_, rfl, p, C, dx, _, rfl, w2owner, X.cl, X.nO, (by show 5 < 1000; decide), ?_⟩
      rw [eFowner]
      have x6 : Xo T (fun b => b = p) H (upd (upd (upd He t1owner (.lst [.non])) ao (.lst (fl (fun _ => .non) (wide + n)))) p (.ins C dx (flds wide n D al ar ao))) := (x5.trans (xxowner.mono fun _ z => z.elim)).mut (.inr rfl) (by rw [w2owner]; exact Soft.ins)
      have hp7 : upd (upd (upd He t1owner (.lst [.non])) ao (.lst (fl (fun _ => .non) (wide + n)))) p (.ins C dx (flds wide n D al ar ao)) p = some (.ins C dx (flds wide n D al ar ao)) := upd_same
      have hD4leftrightowner : upd (upd (upd He t1owner (.lst [.non])) ao (.lst (fl (fun _ => .non) (wide + n)))) p (.ins C dx (flds wide n D al ar ao)) D = _ := (upd_ne (ne_of hp6 hD4leftright (by intro z; cases z)).symm).trans (xxowner.lst hD4leftright (fun z => z))
      have halleftrightowner : upd (upd (upd He t1owner (.lst [.non])) ao (.lst (fl (fun _ => .non) (wide + n)))) p (.ins C dx (flds wide n D al ar ao)) al = _ := (upd_ne (ne_of hp6 halleftright (by intro z; cases z)).symm).trans (xxowner.lst halleftright (fun z => z))
      have harrightowner : upd (upd (upd He t1owner (.lst [.non])) ao (.lst (fl (fun _ => .non) (wide + n)))) p (.ins C dx (flds wide n D al ar ao)) ar = _ := (upd_ne (ne_of hp6 harright (by intro z; cases z)).symm).trans (xxowner.lst harright (fun z => z))
      have haoowner : upd (upd (upd He t1owner (.lst [.non])) ao (.lst (fl (fun _ => .non) (wide + n)))) p (.ins C dx (flds wide n D al ar ao)) ao = some (.lst (fl (fun _ => .non) (wide + n))) := (upd_ne pao.symm).trans w3owner
      have hr7 : ∀ k r, rs[k]? = some r → (r ≠ D ∧ r ≠ p ∧ upd (upd (upd He t1owner (.lst [.non])) ao (.lst (fl (fun _ => .non) (wide + n)))) p (.ins C dx (flds wide n D al ar ao)) r = some (.lst (fl (fun j => .int (costW W wide k j)) (wide + n)))) ∧ r ≠ al ∧ r ≠ ar ∧ r ≠ ao := fun k r e => by
        obtain ⟨⟨a1, a2, a3⟩, b1, b2⟩ := hr6 k r e
        have a4 : r ≠ ao := ne_of_none (by rw [upd_ne (ne_of_none a3 h1owner)]; exact a3 : upd He t1owner (.lst [.non]) r = _) hao
        exact ⟨⟨a1, a2, (upd_ne a2).trans (xxowner.lst a3 (fun z => z))⟩, b1, b2, a4⟩
      generalize upd (upd (upd He t1owner (.lst [.non])) ao (.lst (fl (fun _ => .non) (wide + n)))) p (.ins C dx (flds wide n D al ar ao)) = Hf at x6 hp7 hD4leftrightowner halleftrightowner harrightowner haoowner hr7 ⊢
      exact q Hf D al ar ao rs x6 ⟨hp7, hD4leftrightowner, hrl.trans hn, fun i hi => by
        obtain ⟨r, er⟩ : ∃ r, rs[i]? = some r := ⟨_, List.getElem?_eq_getElem (by omega)⟩
        exact ⟨r, er, (hr7 i r er).1.2.2⟩, halleftrightowner, harrightowner, haoowner, galar, galao, garao, gDal, gDar, gDao, fun r hr => by
        obtain ⟨k, hk, rfl⟩ := List.getElem_of_mem hr
        exact (hr7 k _ (List.getElem?_eq_getElem hk)).2⟩ nal nar nao
end
end G3

set_option Elab.async false
set_option linter.all false
set_option maxRecDepth 100000
set_option maxHeartbeats 2000000
namespace G3
open PySem PySem.Spec PyProof.Rows L2
/-! ### best_pairs -/
def spPairs (K : PySem.W.Frag) (T : TbA) : Sp := fun vs H Q _ => ∃ (o : Addr) (ts : List Addr) (W : Nat → Nat → Int) (wide n : Nat), vs = [.ref o] ∧ SqL K H o (ts.map V.ref) ∧ ts.length = n ∧ 0 < n ∧ (∀ i t, ts[i]? = some t → SqT K H t (fl (fun j => .int (W i j)) wide)) ∧ (∀ i j, 0 ≤ W i j) ∧ n ≤ 100 ∧ wide ≤ 100 ∧ Tb T H ∧
  ∀ H' t a b c u v ow (pairs : Nat → Option Nat), Xo T nM H H' → H' t = some (.tup [.ref a, .ref b, .ref c]) → H' a = some (.tup (fl (fun i => ov (pairs i)) n)) → Good n (wide + n) (costW W wide) u v ow →
    (∀ i j, i < n → pairs i = some j → j < wide ∧ ow j = some i) → (∀ i j, j < wide → ow j = some i → pairs i = some j) → Q (.ref t) H'
abbrev prsN : List Str := ["rows", "search", "row", "found", "column", "gains", "one"]
theorem scPairs : FnScope prsN ["rows"] (defScope sPairs) := ⟨rfl, rfl, rfl, by decide +kernel, rfl, by decide +kernel, by decide +kernel⟩
section
variable {P : Program} {w : World} {K : PySem.W.Frag} {mg : Str → Option Value} {base : Heap} {T : TbA}
/-- the defs that the search calls -/
structure Srch (K : PySem.W.Frag) (mg : Str → Option Value) (base : Heap) (T : TbA) (C : Addr) (fW fI fP fL fS : Addr) (fdW fdI fdP fdL fdS : FuncData) : Prop where
  cW : ∃ c, fdW.code = .ref c ∧ GxR.TabB base mg c T.gw
  nW : T.gw ≠ T.lp
  W : Fun K "check_worths" "check_worths" sWorths fW fdW
  bW : Binds K fdW ["rows"] []
  gW : mg "check_worths" = some (.ref fW)
  I : Fun K "__init__" "Search.__init__" sInit fI fdI
  bI : Binds K fdI ["self", "rows"] []
  M : Mk K C fI
  cP : ∃ c, fdP.code = .ref c ∧ LamX.TabB base mg c T.lp
  hq : T.ql = (("Search.put_in" : Str) ++ ".<locals>.") ++ "<lambda>"
  P : Fun K "put_in" "Search.put_in" sPut fP fdP
  bP : Binds K fdP ["self", "row"] []
  mP : Meth K C "put_in" fP
  L : Fun K "look" "Search.look" sLook fL fdL
  bL : Binds K fdL ["self", "here", "column", "used", "best", "came"] []
  mL : Meth K C "look" fL
  S : Fun K "shift" "Search.shift" sShift fS fdS
  bS : Binds K fdS ["self", "row", "used", "best", "step"] []
  mS : Meth K C "shift" fS
theorem ok_pairs {f C fW fI fP fL fS : Addr} {fd fdW fdI fdP fdL fdS : FuncData} (F : Fun K "best_pairs" "best_pairs" sPairs f fd) (B : Blt mg) (X : TxS K mg C) (Z : Srch K mg base T C fW fI fP fL fS fdW fdI fdP fdL fdS) : FnOk P w K mg base CX0 3 f fd ["rows"] (spPairs K T) := by
  obtain ⟨cW, hcW, TBW⟩ := Z.cW
  obtain ⟨cP, hcP, TBP⟩ := Z.cP
  have GW : FnOk P w K mg base CX0 1 fW fdW ["rows"] (spWorths K T) := ok_worths Z.W hcW B TBW Z.nW
  have GI : FnOk P w K mg base CX0 1 fI fdI ["self", "rows"] (spInit C K T) := ok_init Z.I B X
  have GP : FnOk P w K mg base CX0 2 fP fdP ["self", "row"] (spPut C T) := ok_put Z.P hcP B X TBP Z.hq Z.L Z.bL Z.mL Z.S Z.bS Z.mS
  refine F.ok scPairs (fun vs H Q E h => ?_) (fun cdv A outer s H vs Q E hr h => ?_)
  · obtain ⟨o, ts, W, wide, n, rfl, _⟩ := h
    rfl
  · obtain ⟨o, ts, W, wide, n, rfl, hL, hn, hn0, ht, hW, hn1, hw, hT, q⟩ := h
    have hr1 : Room 1 _ := hr.mono (by decide)
    refine ⟨_, pss_cons (ps_set (i := 1) scPairs.nd rfl (Or.inl rfl) (pe_make Z.M GI hr rfl X.mgC Z.bI .nil pass0 (pa_cons (pe_call GW hr1 rfl Z.gW Z.W.kp Z.bW .nil pass0 (pa_cons (pv 0) pa_nil)) pa_nil)))
      (pss_cons (ps_for PassesOwn.never rfl (pi_range1 (by rfl) B.range (pa_cons (pe_fld (pv 1) rfl) pa_nil)) (pg_name (i := 2) scPairs.nd rfl (Or.inl rfl)) (pss_one (ps_expr (pe_meth (pv 1) X.cl Z.mP GP hr Z.bP .nil pass0 (pa_cons (pv 2) pa_nil)))))
      (pss_cons (ps_set (i := 3) scPairs.nd rfl (Or.inl rfl) (pe_op op_rep (pe_lst (pa_cons pe_non pa_nil)) (pe_fld (pv 1) rfl)))
      (pss_cons (ps_for PassesOwn.never rfl (pi_range1 (by rfl) B.range (pa_cons (pe_fld (pv 1) rfl) pa_nil)) (pg_name (i := 4) scPairs.nd rfl (Or.inl rfl))
        (pss_one (ps_if (pt_cmpR op_notN (pe_ix ix_list (pe_fld (pv 1) rfl) (pv 4) (fun _ _ => rfl)) pe_non (nomark _)) (pss_one (ps_asg (pv 4) (pg_sub (pv 3) (pe_ix ix_list (pe_fld (pv 1) rfl) (pv 4) (fun _ _ => rfl)) set_list))) pss_nil)))
      (pss_cons (ps_set (i := 5) scPairs.nd rfl (Or.inl rfl) (pe_callTy call_tuple_of (by rfl) B.tuple (by decide +kernel) (pa_cons (pe_lc (own := [("one", 6)]) (g := gName 6) (tt := tYes) rfl scPairs.nd (pi_list (pe_fld (pv 1) rfl)) (blkOk_by (N := prsN) (sc := defScope sPairs) (by decide +kernel)) (fun _ _ _ _ _ => pg_name (i := 6) scPairs.nd rfl (Or.inl rfl)) (fun _ _ _ _ _ => pts_nil) (fun _ _ _ _ _ => pe_op op_sub pe_int (pv 6))) pa_nil)))
      (pss_one (ps_ret (pe_tup (pa_cons (pe_callTy call_tuple_of (by rfl) B.tuple (by decide +kernel) (pa_cons (pv 3) pa_nil)) (pa_cons (pv 5) (pa_cons (pe_callTy call_tuple_of (by rfl) B.tuple (by decide +kernel) (pa_cons (pe_lc (own := [("one", 6)]) (g := gName 6) (tt := tYes) rfl scPairs.nd (pi_list (pe_slice sl_list (pe_fld (pv 1) rfl) po_none (po_some (pe_fld (pv 1) rfl)))) (blkOk_by (N := prsN) (sc := defScope sPairs) (by decide +kernel)) (fun _ _ _ _ _ => pg_name (i := 6) scPairs.nd rfl (Or.inl rfl)) (fun _ _ _ _ _ => pts_nil) (fun _ _ _ _ _ => pe_op op_sub pe_int (pv 6))) pa_nil)) pa_nil))))))))))
      , ?_⟩
    refine ⟨_, rfl, o, ts, W, wide, rfl, hL, ht, hW, by omega, by omega, hT, fun H1 r x1 hr0 hrL => ?_⟩
    intro x dx nx ndx nex
    have xm : Xo T nM H1 (upd (upd H1 dx (.own x)) x (.ins C dx [])) := (Xo.new1 ndx).new (by rw [upd_ne nex.symm]; exact nx)
    refine ⟨x, dx, r, ts, W, wide, n, rfl, upd_same, xm.sL (SqL.of hrL), hn, hn0, fun i t e => xm.sT (x1.sT (ht i t e)), hn1, hw, fun H2 ac al ar ao rs x2 S0 hal har hao => ⟨rfl, ?_⟩⟩
    have x3 : Xo T nM H H2 := x1.trans (((xm.mono (M' := fun b => b = x) fun _ z => z.elim).trans x2).drop fun b z => .inl (by rw [z]; exact nx))
    have nal : H al = none := x1.free (xm.free hal (fun z => z)) (fun z => z)
    have nar : H ar = none := x1.free (xm.free har (fun z => z)) (fun z => z)
    have nao : H ao = none := x1.free (xm.free hao (fun z => z)) (fun z => z)
    refine ⟨_, rfl, x, C, dx, _, _, rfl, S0.ob, X.cl, X.nM, rfl, ?_⟩
    refine ⟨_, rfl, by omega, by omega, for_range (lo := 0) (n := n) (fun i σ H' => ∃ z u v ow, σ = [some (.ref o), some (.ref x), z, none, none, none, none] ∧ Xo T (fun b => b = al ∨ b = ar ∨ b = ao) H H' ∧ SA C H' x dx ac al ar ao rs wide n (wide + n) (costW W wide) u v ow ∧ Good i (wide + n) (costW W wide) u v ow)
      ⟨none, _, _, _, rfl, x3.mono fun _ z => z.elim, S0, Good.start _ _ _⟩ (fun i σ H' hi ⟨z, u, v, ow, hσ, hx, S, G⟩ => ?_) (fun σ H' ⟨z, u, v, ow, hσ, hx, S, G⟩ => ?_)⟩
    · subst hσ
      rw [Int.zero_add]
      refine ⟨_, rfl, x, dx, _, rfl, S.ob, rfl, _, rfl, x, dx, ac, al, ar, ao, rs, wide, n, wide + n, costW W wide, u, v, ow, i, rfl, S, hi, by omega, by omega, G, hx.tb hT, fun H3 u' v' ow' x' S' G' => ?_⟩
      exact ⟨_, u', v', ow', rfl, hx.trans x', S', G'⟩
    · subst hσ
      refine ⟨by show 1 ≤ sizeLine; decide, fun t1 h1 => ?_⟩
      have S1 : SA C (upd H' t1 (.lst [.non])) x dx ac al ar ao rs wide n (wide + n) (costW W wide) u v ow := S.keep fun b o _ e => by rw [upd_ne (ne_of_none e h1)]; exact e
      refine ⟨_, rfl, x, C, dx, _, _, rfl, S1.ob, X.cl, X.nM, rfl, t1, _, _, rfl, rfl, upd_same, by omega, by omega, by show 1 * ((n : Int)).toNat ≤ sizeLine; rw [Int.toNat_natCast, sizeLine_eq]; omega, fun fo hfo => ?_⟩
      rw [rep_fl]
      have nfo : ¬ SA.own x ac al ar ao rs fo := S1.not_own hfo
      have S2 : SA C (upd (upd H' t1 (.lst [.non])) fo (.lst (fl (fun _ => .non) n))) x dx ac al ar ao rs wide n (wide + n) (costW W wide) u v ow := S1.keep fun b o hb e => by rw [upd_ne (own_ne nfo hb)]; exact e
      have xf := (hx.new (o := .lst [.non]) h1).new (o := .lst (fl (fun _ => .non) n)) hfo
      have fnM : ¬ (fo = al ∨ fo = ar ∨ fo = ao) := fun z => nfo (by rcases z with z | z | z <;> simp [SA.own, z])
      have nfoH : H fo = none := (hx.new (o := .lst [.non]) h1).free hfo fnM
      have hfoL : upd (upd H' t1 (.lst [.non])) fo (.lst (fl (fun _ => .non) n)) fo = some (.lst (fl (fun _ => .non) n)) := upd_same
      generalize upd (upd H' t1 (.lst [.non])) fo (.lst (fl (fun _ => .non) n)) = Hf at S2 xf hfoL ⊢
      refine ⟨_, rfl, x, C, dx, _, _, rfl, S2.ob, X.cl, X.nW, rfl, ?_⟩
      refine ⟨_, rfl, by omega, by omega, for_range (lo := 0) (n := wide) (fun k σ H' => ∃ (z4 : Option V) (pr : Nat → Option Nat), σ = [some (.ref o), some (.ref x), z, some (.ref fo), z4, none, none] ∧ Xo T (fun b => b = al ∨ b = ar ∨ b = ao) H H' ∧ SA C H' x dx ac al ar ao rs wide n (wide + n) (costW W wide) u v ow ∧
        H' fo = some (.lst (fl (fun i => ov (pr i)) n)) ∧ (∀ i j, i < n → pr i = some j → j < k ∧ ow j = some i) ∧ ∀ i j, j < k → ow j = some i → pr i = some j)
        ⟨none, fun _ => none, rfl, xf, S2, hfoL, fun i j _ e => (by cases e), fun i j e => absurd e (Nat.not_lt_zero _)⟩ (fun k σ H' hk ⟨z4, pr, hσ, hx, S, hF, p1, p2⟩ => ?_) (fun σ H' ⟨z4, pr, hσ, hx, S, hF, p1, p2⟩ => ?_)⟩
      · subst hσ
        rw [Int.zero_add]
        have hkm : k < wide + n := by omega
        cases eo : ow k with
        | none =>
          refine ⟨_, rfl, x, C, dx, _, _, rfl, S.ob, X.cl, X.nO, rfl, _, rfl, ao, _, _, .non, rfl, rfl, SqL.of S.ow, (by rw [fl_at hkm, eo]; rfl), rfl, _, rfl, iteF ?_⟩
          refine ⟨_, pr, rfl, hx, S, hF, fun i j hi e => ?_, fun i j hj e => ?_⟩
          · obtain ⟨a1, a2⟩ := p1 i j hi e
            exact ⟨by omega, a2⟩
          · have : j ≠ k := fun z => by rw [z, eo] at e; cases e
            exact p2 i j (by omega) e
        | some i =>
          have hin : i < n := G.own i k hkm eo
          refine ⟨_, rfl, x, C, dx, _, _, rfl, S.ob, X.cl, X.nO, rfl, _, rfl, ao, _, _, iv i, rfl, rfl, SqL.of S.ow, (by rw [fl_at hkm, eo]; rfl), rfl, _, rfl, iteT ?_⟩
          refine ⟨_, rfl, _, rfl, _, rfl, x, C, dx, _, _, rfl, S.ob, X.cl, X.nO, rfl, _, rfl, ao, _, _, iv i, rfl, rfl, SqL.of S.ow, (by rw [fl_at hkm, eo]; rfl), fo, _, _, _, rfl, rfl, hF, fl_ix hin, ?_⟩
          have eL : (fl (fun i => ov (pr i)) n).set i (iv k) = fl (fun i' => ov (fset pr i (some k) i')) n := by
            rw [fl_set hin]
            exact congrArg (fun g => fl g n) (fset_map (x := some k) keyV).symm
          rw [eL]
          refine ⟨_, fset pr i (some k), rfl, hx.mut (.inl nfoH) (by rw [hF]; exact Soft.lst), S.keep fun b o hb e => by rw [upd_ne (own_ne nfo hb)]; exact e, upd_same, fun i' j hi' e => ?_, fun i' j hj e => ?_⟩
          · by_cases h : i' = i
            · subst h
              rw [fset_same] at e
              cases e
              exact ⟨Nat.lt_succ_self _, eo⟩
            · rw [fset_ne h] at e
              obtain ⟨a1, a2⟩ := p1 i' j hi' e
              exact ⟨by omega, a2⟩
          · by_cases h : j = k
            · subst h
              rw [eo] at e
              cases e
              rw [fset_same]
            · have hne : i' ≠ i := fun z => by
                subst z
                exact h (G.inj i' j k (by omega) hkm e eo)
              rw [fset_ne hne]
              exact p2 i' j (by omega) e
      · subst hσ
        have xd : Xo T nM H H' := hx.drop fun b z => .inl (by rcases z with z | z | z <;> rw [z] <;> assumption)
        refine ⟨_, rfl, x, C, dx, _, _, rfl, S.ob, X.cl, X.nL, rfl, al, rfl, ⟨_, SqL.of S.le⟩, fun D hD => lc_list (K := K) (a := al) (xs := fl (fun i => .int (u i)) n) (fun i H'' => Xo T nM H' H'' ∧ ∃ acc, H'' D = some (.lst acc) ∧ acc.length = i)
          ⟨Xo.new1 hD, [], upd_same, rfl⟩ (fun i H'' _ ⟨y, _⟩ => y.sL (SqL.of S.le)) (fun i xv H'' hi ⟨y, acc, ha, hl⟩ => ?_) (fun H'' ⟨y, acc, ha, hl⟩ => ?_)⟩
        · have hin : i < n := by
            have := (List.getElem?_eq_some_iff.mp hi).1
            rw [fl_len] at this
            exact this
          rw [fl_get hin] at hi
          obtain rfl : V.int (u i) = xv := Option.some.inj hi
          refine ⟨rfl, ?_⟩
          refine ⟨_, rfl, _, _, rfl, rfl, acc, ha, by rw [hl, sizeLine_eq]; omega, y.mut (.inl hD) (by rw [ha]; exact Soft.lst), _, upd_same, ?_⟩
          rw [List.length_append, List.length_singleton, hl]
        · refine ⟨D, _, rfl, .inl ⟨SqL.of ha, fun g hg => ?_⟩⟩
          have y1 := y.new (o := .tup acc) hg
          have hF1 := y1.lst hF (fun z => z)
          refine ⟨_, rfl, fo, _, rfl, .inl ⟨SqL.of hF1, fun a ha' => ?_⟩⟩
          have y2 := y1.new (o := .tup (fl (fun i => ov (pr i)) n)) ha'
          have hob := y2.keep _ _ S.ob (fun z => z) (fun ps z => by cases z)
          have hri := y2.lst S.ri (fun z => z)
          have hat : upd (upd H'' g (.tup acc)) a (.tup (fl (fun i => ov (pr i)) n)) a = some (.tup (fl (fun i => ov (pr i)) n)) := upd_same
          generalize upd (upd H'' g (.tup acc)) a (.tup (fl (fun i => ov (pr i)) n)) = Hg at y2 hob hri hat ⊢
          refine ⟨_, rfl, _, rfl, x, C, dx, _, _, rfl, hob, X.cl, X.nR, rfl, _, rfl, x, C, dx, _, _, rfl, hob, X.cl, X.nW, rfl, _, rfl, ar, _, rfl, SqL.of hri, fun sl hsl => ?_⟩
          have y3 := y2.new (o := .lst (cutV (fl (fun j => .int (v j)) (wide + n)) none (some (wide : Int)))) hsl
          have hcut : ∀ w ∈ cutV (fl (fun j => .int (v j)) (wide + n)) none (some (wide : Int)), ∃ z : Int, w = .int z := fun w hw => by
            unfold cutV at hw
            have hw2 := List.mem_of_mem_drop (List.mem_of_mem_take hw)
            obtain ⟨j, _, e⟩ := List.mem_map.mp hw2
            exact ⟨v j, e.symm⟩
          have hcl := cutV_length (fl (fun j => .int (v j)) (wide + n)) none (some (wide : Int))
          rw [fl_len] at hcl
          have hslL : upd Hg sl (.lst (cutV (fl (fun j => .int (v j)) (wide + n)) none (some (wide : Int)))) sl = some (.lst (cutV (fl (fun j => .int (v j)) (wide + n)) none (some (wide : Int)))) := upd_same
          have hat3 : upd Hg sl (.lst (cutV (fl (fun j => .int (v j)) (wide + n)) none (some (wide : Int)))) a = some (.tup (fl (fun i => ov (pr i)) n)) := by rw [upd_ne (ne_of_none hat hsl)]; exact hat
          generalize cutV (fl (fun j => .int (v j)) (wide + n)) none (some (wide : Int)) = cs at y3 hcut hcl hslL hat3 ⊢
          refine ⟨sl, rfl, ⟨_, SqL.of hslL⟩, fun D2 hD2 => lc_list (K := K) (a := sl) (xs := cs) (fun i H'' => Xo T nM (upd Hg sl (.lst cs)) H'' ∧ ∃ acc, H'' D2 = some (.lst acc) ∧ acc.length = i)
            ⟨Xo.new1 hD2, [], upd_same, rfl⟩ (fun i H'' _ ⟨y, _⟩ => y.sL (SqL.of hslL)) (fun i xv H'' hi ⟨y, acc, ha, hl⟩ => ?_) (fun H'' ⟨y, acc, ha, hl⟩ => ?_)⟩
          · obtain ⟨zz, rfl⟩ := hcut xv (List.mem_of_getElem? hi)
            have hil := (List.getElem?_eq_some_iff.mp hi).1
            refine ⟨rfl, ?_⟩
            refine ⟨_, rfl, _, _, rfl, rfl, acc, ha, by rw [hl, sizeLine_eq]; omega, y.mut (.inl hD2) (by rw [ha]; exact Soft.lst), _, upd_same, ?_⟩
            rw [List.length_append, List.length_singleton, hl]
          · refine ⟨D2, _, rfl, .inl ⟨SqL.of ha, fun e he => ?_⟩⟩
            refine ⟨by show 3 ≤ sizeLine; decide, fun t ht' => ?_⟩
            have y4 := (y.new (o := .tup acc) he).new (o := .tup [.ref a, .ref g, .ref e]) ht'
            refine q _ t a g e u v ow pr (xd.trans (y3.trans y4)) upd_same (y4.keep _ _ hat3 (fun z => z) (fun ps z => by cases z)) G p1 p2
end
end G3

set_option Elab.async false
set_option linter.all false
set_option maxRecDepth 100000
set_option maxHeartbeats 2000000
namespace G3
open PySem PySem.Spec PyProof.Rows L2
/-! ### weights -/
def wLen (k : Nat) : Nat := if k = 0 then 1 else k
def spWeights (T : TbA) : Sp := fun vs H Q _ => ∃ (k : Nat) (b : Int) (up : Bool), vs = [iv k, .int b, .bl up] ∧ k ≤ 100 ∧ 0 ≤ b ∧ b ≤ 100 ∧
  ∀ H' q, Xo T nM H H' → H q = none → H' q = some (.lst (fl (fun i => .int (if up = true then b ^ (wLen k - 1 - i) else b ^ i)) (wLen k))) → Q (.ref q) H'
abbrev wtsN : List Str := ["count", "base", "up", "found", "turn"]
theorem scWeights : FnScope wtsN ["count", "base", "up"] (defScope sWeights) := ⟨rfl, rfl, rfl, by decide +kernel, rfl, by decide +kernel, by decide +kernel⟩
theorem fl_rev (f : Nat → V) (n : Nat) : (fl f n).reverse = fl (fun i => f (n - 1 - i)) n := by
  unfold fl
  refine List.ext_getElem (by simp) fun i h1 h2 => ?_
  simp only [List.length_reverse, List.length_map, List.length_range] at h1 h2
  simp
section
variable {P : Program} {w : World} {K : PySem.W.Frag} {mg : Str → Option Value} {base : Heap} {T : TbA}
theorem ok_weights {f : Addr} {fd : FuncData} (F : Fun K "weights" "weights" sWeights f fd) (B : Blt mg) : FnOk P w K mg base CX0 1 f fd ["count", "base", "up"] (spWeights T) := by
  refine F.ok scWeights (fun vs H Q E h => ?_) (fun cdv A outer s H vs Q E hr h => ?_)
  · obtain ⟨k, b, up, rfl, _⟩ := h
    rfl
  · obtain ⟨k, b, up, rfl, hk, hb0, hb1, q⟩ := h
    refine ⟨_, pss_cons (ps_set (i := 3) scWeights.nd rfl (Or.inl rfl) (pe_lst (pa_cons pe_int pa_nil)))
      (pss_cons (ps_for PassesOwn.never rfl (pi_range1 (by rfl) B.range (pa_cons (pe_op op_sub (pv 0) pe_int) pa_nil)) (pg_name (i := 4) scWeights.nd rfl (Or.inl rfl))
        (pss_one (ps_expr (pe_bm PySem.F.plainAttrs_list PySem.F.slot_list_append PySem.F.type_list_append mt_append (pv 3) (pa_cons (pe_op op_mul (pe_ix ix_list (pv 3) (pe_un un_neg pe_int) (fun _ _ => rfl)) (pv 1)) pa_nil)))))
      (pss_one (ps_ret (pe_ifExp (pt_val (pv 2)) (pe_listRev rfl (by rfl) B.list (by rfl) B.reversed (pv 3)) (pv 3))))), ?_⟩
    refine ⟨by show 1 ≤ sizeLine; decide, fun l hl => ?_⟩
    obtain ⟨L, hL, hw⟩ : ∃ L, ((k : Int) - 1).toNat = L ∧ wLen k = L + 1 := by
      refine ⟨k - 1, by omega, ?_⟩
      unfold wLen
      split <;> omega
    have hwk : wLen k ≤ 101 := by
      unfold wLen
      split <;> omega
    refine ⟨_, rfl, _, _, rfl, rfl, (k : Int) - 1, rfl, by omega, by omega, ?_⟩
    rw [hL]
    refine for_range (lo := 0) (n := L) (fun i σ H' => ∃ z, σ = [some (iv k), some (.int b), some (.bl up), some (.ref l), z] ∧ Xo T nM H H' ∧ H' l = some (.lst (fl (fun i => .int (b ^ i)) (i + 1))))
      ⟨none, rfl, Xo.new1 hl, by rw [upd_same]; simp [fl]⟩ (fun i σ H' hi ⟨z, hσ, hx, hF⟩ => ?_) (fun σ H' ⟨z, hσ, hx, hF⟩ => ?_)
    · subst hσ
      have hF2 := hF
      rw [fl_snoc] at hF2
      refine ⟨_, rfl, .inl ⟨rfl, _, SqL.of hF⟩, _, rfl, _, rfl, l, _, _, .int (b ^ i), rfl, rfl, SqL.of hF2, atI_last _ _, _, rfl, _, _, rfl, rfl, .inr ⟨by omega, by omega⟩, l, _, _, rfl, rfl, hF, by rw [fl_len, sizeLine_eq]; omega, ?_⟩
      have e : fl (fun i => .int (b ^ i)) (i + 1) ++ [V.int (b ^ i * b)] = fl (fun i => .int (b ^ i)) (i + 1 + 1) := by
        rw [fl_snoc (fun i => .int (b ^ i)) (i + 1), Int.pow_succ]
      rw [e]
      exact ⟨_, rfl, hx.mut (.inl hl) (by rw [hF]; exact Soft.lst), upd_same⟩
    · subst hσ
      refine ⟨_, rfl, up, rfl, ?_⟩
      rw [← hw] at hF
      cases up with
      | true =>
        refine ⟨_, rfl, l, _, rfl, SqL.of hF, fun p hp => ?_⟩
        rw [fl_rev]
        exact q _ p (hx.new hp) (hx.free hp (fun z => z)) upd_same
      | false =>
        exact ⟨_, rfl, q _ l hx hl hF⟩
end
end G3

set_option Elab.async false
set_option linter.all false
set_option maxRecDepth 100000
set_option maxHeartbeats 2000000
namespace G3
open PySem PySem.Spec PyProof.Rows L2
/-- a comprehension over anything that gives n items -/
theorem lc_it {It0 : It} {n : Nat} {g : TG} {tt : TT} {te : TE} {vs : List Nat} {σ : L2.St} {H1 : Hp} {D : Addr} {Qd : Hp → Prop} (Pv : Nat → Hp → Prop) (h0 : Pv 0 (upd H1 D (.lst []))) (hstop : ∀ H, Pv n H → It0.stop n H) (hgo : ∀ i H, i < n → Pv i H → It0.go i H)
    (hs : ∀ i x H H', i < n → Pv i H → It0.yld i H x H' → g x (wipe σ vs) H' fun σ2 H2 => wipe σ2 vs = wipe σ vs ∧ tt σ2 H2 fun b H3 =>
      if b = true then te σ2 H3 fun y H4 => ∃ acc, H4 D = some (.lst acc) ∧ acc.length < sizeLine ∧ Pv (i + 1) (upd H4 D (.lst (acc ++ [y]))) else Pv (i + 1) H3) (hd : ∀ H, Pv n H → Qd H) :
    ∃ W : Nat → Nat → Hp → Prop, (∃ m, W 0 m (upd H1 D (.lst []))) ∧ ∀ i m H, W i m H →
      (It0.stop i H ∧ Qd H) ∨ (It0.go i H ∧ ∃ Nx : Hp → Prop, (∀ H', Nx H' → ∃ m', m' < m ∧ W (i + 1) m' H') ∧ ∀ x H', It0.yld i H x H' → g x (wipe σ vs) H' fun σ2 H2 => wipe σ2 vs = wipe σ vs ∧ tt σ2 H2 fun b H3 =>
        if b = true then te σ2 H3 fun y H4 => ∃ acc, H4 D = some (.lst acc) ∧ acc.length < sizeLine ∧ Nx (upd H4 D (.lst (acc ++ [y]))) else Nx H3) := by
  refine ⟨fun i m H => m = n - i ∧ i ≤ n ∧ Pv i H, ⟨n, by simp, Nat.zero_le _, h0⟩, ?_⟩
  rintro i m H ⟨rfl, hi, p⟩
  by_cases hlt : i < n
  · exact .inr ⟨hgo i H hlt p, Pv (i + 1), fun H' p' => ⟨n - (i + 1), by omega, rfl, hlt, p'⟩, fun x H' y => hs i x H H' hlt p y⟩
  · have e : i = n := by omega
    subst e
    exact .inl ⟨hstop H p, hd H p⟩
/-! ### by_weights -/
/-- lists of things, tuples of ints -/
abbrev Lsts (K : PySem.W.Frag) (H : Hp) : List Addr → List (List Nat) → Prop := Paired fun t l => SqT K H t (l.map iv)
def spBy (K : PySem.W.Frag) (T : TbA) : Sp := fun vs H Q _ => ∃ (a ws : Addr) (ts : List Addr) (ls : List (List Nat)) (m L : Nat) (wt : Nat → Int), vs = [.ref a, iv m, .ref ws] ∧ SqL K H a (ts.map V.ref) ∧ Lsts K H ts ls ∧ ls ≠ [] ∧ (∀ l ∈ ls, l.Nodup ∧ (∀ t ∈ l, t < m) ∧ l.length ≤ L) ∧
  SqL K H ws (fl (fun i => .int (wt i)) L) ∧ (∀ i, i < L → 0 ≤ wt i) ∧ ls.length ≤ 100 ∧ m ≤ 100 ∧ Tb T H ∧
  ∀ H' t g, Xo T nM H H' → H' t = some (.tup (g.map keyV)) → Best ls wt g → Q (.ref t) H'
abbrev byN : List Str := ["lists", "many", "weight", "rows", "order", "row", "place", "thing", "pairs", "one"]
theorem scBy : FnScope byN ["lists", "many", "weight"] (defScope sBy) := ⟨rfl, rfl, rfl, by decide +kernel, rfl, by decide +kernel, by decide +kernel⟩
abbrev teBy (K : PySem.W.Frag) : TE := tIf (tAnd (tTest (tOp (fun x y H Q => y = .non ∧ Q (.bl (!decide (x = .non))) H) (tVar 7) (tC .non))) (tTest (tOp (rIn K false) (tVar 7) (tOp (rIxL K) (tVar 0) (tVar 9))))) (tVar 7) (tC .non)
/-- a row as it stands behind its first p places -/
def rowW (wt : Nat → Int) (l : List Nat) (p j : Nat) : Int := if j ∈ l.take p then wt (l.idxOf j) else 0
theorem rowW_step (wt : Nat → Int) {l : List Nat} (hn : l.Nodup) {p t : Nat} (h : l[p]? = some t) : fset (rowW wt l p) t (wt p) = rowW wt l (p + 1) := by
  have hp := (List.getElem?_eq_some_iff.mp h).1
  have ht : l.idxOf t = p := by
    have e : l[p] = t := (List.getElem?_eq_some_iff.mp h).2
    have := hn.idxOf_getElem p hp
    rw [e] at this
    exact this
  funext j
  unfold rowW fset
  rw [List.take_add_one, h]
  by_cases e : j = t
  · subst e
    rw [if_pos rfl, if_pos (by simp), ht]
  · rw [if_neg e]
    show (if j ∈ l.take p then wt (l.idxOf j) else 0) = _
    by_cases h2 : j ∈ l.take p
    · rw [if_pos h2, if_pos (by simp [h2])]
    · rw [if_neg h2, if_neg (by simp [h2, e])]
theorem rowW_all (wt : Nat → Int) (l : List Nat) (j : Nat) : rowW wt l l.length j = worth wt l j := by
  unfold rowW worth
  rw [List.take_of_length_le (Nat.le_refl _)]
section
variable {P : Program} {w : World} {K : PySem.W.Frag} {mg : Str → Option Value} {base : Heap} {T : TbA}
theorem ok_by {f fp : Addr} {fd fdp : FuncData} (F : Fun K "by_weights" "by_weights" sBy f fd) (B : Blt mg) (GP : FnOk P w K mg base CX0 3 fp fdp ["rows"] (spPairs K T)) (FP : Fun K "best_pairs" "best_pairs" sPairs fp fdp) (bP : Binds K fdp ["rows"] []) (gP : mg "best_pairs" = some (.ref fp)) :
    FnOk P w K mg base CX0 4 f fd ["lists", "many", "weight"] (spBy K T) := by
  refine F.ok scBy (fun vs H Q E h => ?_) (fun cdv A outer s H vs Q E hr h => ?_)
  · obtain ⟨a, ws, ts, ls, m, L, wt, rfl, _⟩ := h
    rfl
  · obtain ⟨a, ws, ts, ls, m, L, wt, rfl, hL, hls, hne, hok, hws, hw0, hn, hm, hT, q⟩ := h
    refine ⟨_, pss_cons (ps_set (i := 3) scBy.nd rfl (Or.inl rfl) (pe_lst pa_nil))
      (pss_cons (ps_for PassesOwn.never rfl (pi_list (pv 0)) (pg_name (i := 4) scBy.nd rfl (Or.inl rfl))
        (pss_cons (ps_set (i := 5) scBy.nd rfl (Or.inl rfl) (pe_op op_rep (pe_lst (pa_cons pe_int pa_nil)) (pv 1)))
        (pss_cons (ps_for PassesOwn.never rfl (pi_enumT (by rfl) B.enumerate (pa_cons (pv 4) pa_nil)) (pg_tup rfl (pgs_cons (pg_name (i := 6) scBy.nd rfl (Or.inl rfl)) (pgs_cons (pg_name (i := 7) scBy.nd rfl (Or.inl rfl)) pgs_nil)))
          (pss_one (ps_asg (pe_ix ix_list (pv 2) (pv 6) (fun _ _ => rfl)) (pg_sub (pv 5) (pv 7) set_list))))
        (pss_one (ps_expr (pe_bm PySem.F.plainAttrs_list PySem.F.slot_list_append PySem.F.type_list_append mt_append (pv 3) (pa_cons (pe_callTy call_tuple_of (by rfl) B.tuple (by decide +kernel) (pa_cons (pv 5) pa_nil)) pa_nil)))))))
      (pss_cons (ps_set (i := 8) scBy.nd rfl (Or.inl rfl) (pe_ifExp (pt_cmpR (op_neD hr.units) (pv 3) (pe_lst pa_nil) (nomark _)) (pe_ix ix_tup (pe_call GP hr rfl gP FP.kp bP .nil pass0 (pa_cons (pv 3) pa_nil)) pe_int (fun _ _ => rfl)) (pe_tup pa_nil)))
      (pss_one (ps_ret (pe_callTy call_tuple_of (by rfl) B.tuple (by decide +kernel) (pa_cons (pe_lc (own := [("one", 9), ("thing", 7)]) (g := gTup K 2 (gCons (gName 9) (gCons (gName 7) gNil))) (tt := tYes) (te := teBy K) rfl scBy.nd (pi_enumT (by rfl) B.enumerate (pa_cons (pv 8) pa_nil))
        (blkOk_by (N := byN) (sc := defScope sBy) (by decide +kernel)) (fun _ _ _ _ _ => pg_tup rfl (pgs_cons (pg_name (i := 9) scBy.nd rfl (Or.inl rfl)) (pgs_cons (pg_name (i := 7) scBy.nd rfl (Or.inl rfl)) pgs_nil))) (fun _ _ _ _ _ => pts_nil)
        (fun _ _ _ _ _ => pe_ifExp (PW.pt (pw_and (pt_cmpR op_notN (pv 7) pe_non (nomark _)) (pw_and1 (pt_cmpR op_in_seq (pv 7) (pe_ix ix_list (pv 0) (pv 9) (fun _ _ => rfl)) (by rfl))))) (pv 7) pe_non)) pa_nil)))))), ?_⟩
    refine ⟨Nat.zero_le _, fun rl hrl => ?_⟩
    have lsAt : ∀ i, i < ls.length → ls[i]? = some (ls.getD i []) := fun i hi => by
      rw [List.getD_eq_getElem?_getD, List.getElem?_eq_getElem hi]
      rfl
    have hlen : ts.length = ls.length := Paired.length hls
    refine ⟨_, rfl, a, rfl, ⟨_, (Xo.new1 (T := T) (M := nM) hrl).sL hL⟩, for_list (K := K) (a := a) (xs := ts.map V.ref) (fun i σ H' => ∃ (z4 z5 z6 z7 : Option V) (rt : List Addr), σ = [some (.ref a), some (iv m), some (.ref ws), some (.ref rl), z4, z5, z6, z7, none, none] ∧ Xo T nM H H' ∧ H' rl = some (.lst (rt.map V.ref)) ∧ rt.length = i ∧
      ∀ k t, rt[k]? = some t → SqT K H' t (fl (fun j => .int (worth wt (ls.getD k []) j)) m))
      ⟨none, none, none, none, [], rfl, Xo.new1 hrl, upd_same, rfl, fun k t e => by simp at e⟩ (fun i σ H' _ ⟨_, _, _, _, _, _, x, _⟩ => x.sL hL) (fun i x σ H' hi ⟨z4, z5, z6, z7, rt, hσ, hx, hR, hrt, hrow⟩ => ?_) (fun σ H' ⟨z4, z5, z6, z7, rt, hσ, hx, hR, hrt, hrow⟩ => ?_)⟩
    · subst hσ
      rw [List.getElem?_map] at hi
      cases et : ts[i]? with
      | none => rw [et] at hi; cases hi
      | some t0 =>
        rw [et] at hi
        obtain rfl : V.ref t0 = x := Option.some.inj hi
        obtain ⟨l, el, htl⟩ := paired_get hls et
        obtain ⟨l1, l2, l3⟩ := hok l (List.mem_of_getElem? el)
        have hin : i < ls.length := (List.getElem?_eq_some_iff.mp el).1
        have elD : ls.getD i [] = l := by rw [List.getD_eq_getElem?_getD, el]; rfl
        refine ⟨by show 1 ≤ sizeLine; decide, fun t1 h1 => ?_⟩
        refine ⟨_, rfl, t1, _, _, rfl, rfl, upd_same, by omega, by omega, by show 1 * ((m : Int)).toNat ≤ sizeLine; rw [Int.toNat_natCast, sizeLine_eq]; omega, fun ro hro => ?_⟩
        rw [rep_fl]
        have xa : Xo T nM H' (upd (upd H' t1 (.lst [.int 0])) ro (.lst (fl (fun _ => .int 0) m))) := (Xo.new1 h1).new hro
        have hro0 : H' ro = none := (Xo.new1 (T := T) (M := nM) h1).free hro (fun z => z)
        refine ⟨_, rfl, t0, _, rfl, xa.sT (hx.sT htl), for_enumT (K := K) (a := t0) (xs := l.map iv) (fun p σ H'' => ∃ z6 z7 : Option V, σ = [some (.ref a), some (iv m), some (.ref ws), some (.ref rl), some (.ref t0), some (.ref ro), z6, z7, none, none] ∧ Xo T nM H' H'' ∧ H'' ro = some (.lst (fl (fun j => .int (rowW wt l p j)) m)))
          ⟨z6, z7, rfl, xa, by rw [upd_same]; unfold rowW; simp⟩ (fun p σ H'' _ ⟨_, _, _, y, _⟩ => y.sT (hx.sT htl)) (fun p x T' σ H'' hp ⟨z6, z7, hσ, y, hF⟩ hT' => ?_) (fun σ H'' ⟨z6, z7, hσ, y, hF⟩ => ?_)⟩
        · subst hσ
          rw [List.getElem?_map] at hp
          cases ep : l[p]? with
          | none => rw [ep] at hp; cases hp
          | some t =>
            rw [ep] at hp
            obtain rfl : iv t = x := Option.some.inj hp
            have hpl := (List.getElem?_eq_some_iff.mp ep).1
            have htm := l2 t (List.mem_of_getElem? ep)
            have y2 := y.new (o := .tup [.int (p : Nat), iv t]) hT'
            have hF2 : upd H'' T' (.tup [.int (p : Nat), iv t]) ro = some (.lst (fl (fun j => .int (rowW wt l p j)) m)) := by rw [upd_ne (ne_of_none hF hT')]; exact hF
            refine ⟨_, _, rfl, SqT.of upd_same, rfl, _, _, rfl, _, _, rfl, rfl, ?_⟩
            refine ⟨_, rfl, _, rfl, ws, _, _, _, rfl, rfl, y2.sL (hx.sL hws), fl_at (by omega), _, rfl, _, rfl, ro, _, _, _, rfl, rfl, hF2, fl_ix htm, ?_⟩
            rw [fl_up htm, rowW_step wt l1 ep]
            exact ⟨_, _, rfl, y2.mut (.inl hro0) (by rw [hF2]; exact Soft.lst), upd_same⟩
        · subst hσ
          rw [List.length_map] at hF
          have hR2 := y.lst hR (fun z => z)
          refine ⟨_, rfl, .inl ⟨rfl, _, SqL.of hR2⟩, _, rfl, ro, _, rfl, .inl ⟨SqL.of hF, fun tp htp => ?_⟩⟩
          have y2 := y.new (o := .tup (fl (fun j => .int (rowW wt l l.length j)) m)) htp
          have hR3 := y2.lst hR (fun z => z)
          refine ⟨rl, _, _, rfl, rfl, hR3, by rw [List.length_map, hrt, sizeLine_eq]; omega, ?_⟩
          refine ⟨_, _, _, _, rt ++ [tp], rfl, (hx.trans y2).mut (.inl hrl) (by rw [hR3]; exact Soft.lst), ?_, by rw [List.length_append, List.length_singleton, hrt], fun k t e => ?_⟩
          · rw [upd_same, List.map_append]
            rfl
          · have hmut : ∀ t' xs, SqT K (upd H'' tp (.tup (fl (fun j => .int (rowW wt l l.length j)) m))) t' xs → SqT K (upd (upd H'' tp (.tup (fl (fun j => .int (rowW wt l l.length j)) m))) rl (.lst (rt.map V.ref ++ [V.ref tp]))) t' xs := fun t' xs h => SqT.upd_ne2 h (by rw [hR3]; exact fun ys z => by cases z) (by rw [hR3]; exact fun ys u z => by cases z)
            by_cases hk : k < rt.length
            · rw [List.getElem?_append_left hk] at e
              exact hmut _ _ (y2.sT (hrow k t e))
            · have hk2 : k = rt.length := by
                have := (List.getElem?_eq_some_iff.mp e).1
                rw [List.length_append, List.length_singleton] at this
                omega
              rw [hk2, List.getElem?_append_right (Nat.le_refl _), Nat.sub_self] at e
              obtain rfl : tp = t := Option.some.inj e
              refine hmut _ _ (SqT.of ?_)
              rw [upd_same, hk2, hrt, elD]
              congr 2
              exact fl_congr fun j _ => by rw [rowW_all]
    · subst hσ
      rw [List.length_map, hlen] at hrt
      have hn0 : 0 < ls.length := List.length_pos_iff.mpr hne
      have rtne : rt ≠ [] := fun z => by rw [z] at hrt; simp at hrt; omega
      obtain ⟨ds, hds⟩ := rows_of (K := K) (H := H') (ts := rt) fun t ht' => by
        obtain ⟨i, hi, rfl⟩ := List.getElem_of_mem ht'
        obtain ⟨d, hd⟩ := fl_flats (worth wt (ls.getD i [])) m
        exact ⟨_, d, hrow i _ (List.getElem?_eq_getElem hi), hd⟩
      refine ⟨_, rfl, Nat.zero_le _, fun e he => ?_⟩
      have xe : Xo T nM H' (upd H' e (.lst [])) := .new1 he
      have hds' : Paired (FRow K (upd H' e (.lst []))) rt ds := Paired.mapP hds fun t d ⟨vs, d', h1, h2, h3⟩ => ⟨vs, d', xe.sT h1, h2, h3⟩
      refine ⟨.list ds, .list [], .lst (xe.sL (SqL.of hR)) (rows_dp hds').1, .lst (SqL.of upd_same) .nil, rows_shaped hds', nil_shaped, _, rfl, ?_⟩
      rw [rows_nil hds', decide_eq_false rtne]
      refine iteT ?_
      refine ⟨_, rfl, rl, rt, (fun i j => worth wt (ls.getD i []) j), m, ls.length, rfl, xe.sL (SqL.of hR), hrt, hn0, fun i t e => xe.sT (hrow i t e), fun i j => ?_, hn, hm, xe.tb (hx.tb hT), fun H3 tt aa bb cc u v ow prs x3 hT3 hA3 G p1 p2 => ?_⟩
      · show 0 ≤ worth wt (ls.getD i []) j
        unfold worth
        split
        · rename_i hmem
          by_cases hi : i < ls.length
          · have h := hok _ (List.mem_of_getElem? (lsAt i hi))
            exact hw0 _ (Nat.lt_of_lt_of_le (List.idxOf_lt_length_iff.mpr hmem) h.2.2)
          · rw [List.getD_eq_getElem?_getD, List.getElem?_eq_none (by omega)] at hmem
            cases hmem
        · exact Int.le_refl 0
      · have x4 : Xo T nM H H3 := (hx.trans xe).trans x3
        refine ⟨tt, _, _, .ref aa, rfl, rfl, SqT.of hT3, atI_nat (j := 0) rfl, ?_⟩
        refine ⟨_, rfl, aa, _, rfl, SqT.of hA3, fun D hD => lc_it (It0 := Itet K aa) (n := ls.length) (fun i H4 => Xo T nM H3 H4 ∧ H4 D = some (.lst (fl (fun i => ov (told ls prs i)) i)))
          ⟨Xo.new1 hD, upd_same⟩ (fun H4 ⟨y, _⟩ => ⟨_, y.sT (SqT.of hA3), fl_len _ _⟩) (fun i H4 hi ⟨y, _⟩ => ⟨_, _, y.sT (SqT.of hA3), fl_get hi⟩) (fun i x H4 H5 hi ⟨y, hF⟩ yl => ?_) (fun H4 ⟨y, hF⟩ => ?_)⟩
        · obtain ⟨T', xv, rfl, hT', rfl, hget⟩ := yl
          have ex := hget _ (y.sT (SqT.of hA3))
          rw [fl_get hi] at ex
          have ex' : xv = ov (prs i) := (Option.some.inj ex).symm
          subst ex'
          have y2 := y.new (o := .tup [.int (i : Nat), ov (prs i)]) hT'
          have hF2 : upd H4 T' (.tup [.int (i : Nat), ov (prs i)]) D = some (.lst (fl (fun i => ov (told ls prs i)) i)) := by rw [upd_ne (ne_of_none hF hT')]; exact hF
          have fin : ∀ o, told ls prs i = o → ∃ acc, upd H4 T' (.tup [.int (i : Nat), ov (prs i)]) D = some (.lst acc) ∧ acc.length < sizeLine ∧ Xo T nM H3 (upd (upd H4 T' (.tup [.int (i : Nat), ov (prs i)])) D (.lst (acc ++ [ov o]))) ∧
              upd (upd H4 T' (.tup [.int (i : Nat), ov (prs i)])) D (.lst (acc ++ [ov o])) D = some (.lst (fl (fun i => ov (told ls prs i)) (i + 1))) := fun o e => by
            refine ⟨_, hF2, by rw [fl_len, sizeLine_eq]; omega, y2.mut (.inl hD) (by rw [hF2]; exact Soft.lst), ?_⟩
            rw [upd_same, fl_snoc, e]
          have hTt : SqT K (upd H4 T' (.tup [.int (i : Nat), ov (prs i)])) T' [.int (i : Nat), ov (prs i)] := SqT.of upd_same
          generalize upd H4 T' (.tup [.int (i : Nat), ov (prs i)]) = H5 at y2 hF2 fin hTt ⊢
          refine ⟨_, _, rfl, hTt, rfl, _, _, rfl, _, _, rfl, rfl, rfl, ?_⟩
          · cases ep : prs i with
            | none =>
              refine ⟨_, rfl, rfl, _, rfl, iteF (iteF ?_)⟩
              exact fin none (by unfold told; rw [ep])
            | some j =>
              obtain ⟨ti, eti⟩ : ∃ ti, ts[i]? = some ti := ⟨_, List.getElem?_eq_getElem (by omega)⟩
              obtain ⟨l, el, htl⟩ := paired_get hls eti
              have elD : ls.getD i [] = l := by rw [List.getD_eq_getElem?_getD, el]; rfl
              refine ⟨_, rfl, rfl, _, rfl, iteT ?_⟩
              refine ⟨_, rfl, _, rfl, _, rfl, a, _, _, .ref ti, rfl, rfl, y2.sL (x4.sL hL), atI_nat (by rw [List.getElem?_map, eti]; rfl), ti, _, rfl, .inr (y2.sT (x4.sT htl)), rfl, flat_nats _, _, rfl, ?_⟩
              show (if inV (iv j) (l.map iv) = true then _ else _)
              rw [inV_nats]
              by_cases hj : j ∈ l
              · rw [decide_eq_true hj]
                refine iteT ⟨_, rfl, ?_⟩
                exact fin (some j) (by unfold told; rw [ep]; show (if j ∈ ls.getD i [] then some j else none) = _; rw [elD, if_pos hj])
              · rw [decide_eq_false hj]
                refine iteF ?_
                exact fin none (by unfold told; rw [ep]; show (if j ∈ ls.getD i [] then some j else none) = _; rw [elD, if_neg hj])
        · refine ⟨D, _, rfl, .inl ⟨SqL.of hF, fun t ht => ?_⟩⟩
          have eg : fl (fun i => ov (told ls prs i)) ls.length = ((List.range ls.length).map (told ls prs)).map keyV := by
            unfold fl
            rw [List.map_map]
            rfl
          refine q _ t ((List.range ls.length).map (told ls prs)) ((x4.trans y).new ht) (by rw [upd_same, eg]) ?_
          exact Good.best (wide := m) G (fun l hl t ht => (hok l hl).2.1 t ht) p1 p2
end
end G3

set_option Elab.async false
set_option linter.all false
set_option maxRecDepth 100000
set_option maxHeartbeats 2000000
namespace G3
open PySem PySem.Spec PyProof.Rows L2
/-! ### most_firsts, fewest_lasts, least_sum -/
/-- lists as the three take them -/
structure LsOk (K : PySem.W.Frag) (H : Hp) (a : Addr) (ts : List Addr) (ls : List (List Nat)) (m : Nat) : Prop where
  L : SqL K H a (ts.map V.ref)
  hls : Lsts K H ts ls
  ne : ls ≠ []
  ok : ∀ l ∈ ls, l.Nodup ∧ (∀ t ∈ l, t < m) ∧ l.length ≤ 50
  len : ls.length ≤ 50
  hm : m ≤ 100
theorem LsOk.xo {K : PySem.W.Frag} {T : TbA} {H H' : Hp} {a : Addr} {ts : List Addr} {ls : List (List Nat)} {m : Nat} (h : LsOk K H a ts ls m) (x : Xo T nM H H') : LsOk K H' a ts ls m :=
  ⟨x.sL h.L, Paired.mapP h.hls fun _ _ z => x.sT z, h.ne, h.ok, h.len, h.hm⟩
def spKind (K : PySem.W.Frag) (T : TbA) (wf : List (List Nat) → Nat → Int) : Sp := fun vs H Q _ => ∃ (a : Addr) (ts : List Addr) (ls : List (List Nat)) (m : Nat), vs = [.ref a, iv m] ∧ LsOk K H a ts ls m ∧ Tb T H ∧
  ∀ H' t g, Xo T nM H H' → H' t = some (.tup (g.map keyV)) → Best ls (wf ls) g → Q (.ref t) H'
def w1 (ls : List (List Nat)) (p : Nat) : Int := ((ls.length : Int) + 1) ^ (longest ls - 1 - p)
def w2 (ls : List (List Nat)) (p : Nat) : Int := ((ls.length : Int) + 1) ^ longest ls * ((ls.length : Int) + 1) - ((ls.length : Int) + 1) ^ p
def w3 (ls : List (List Nat)) (p : Nat) : Int := ((longest ls : Int) + 1) * ((ls.length : Int) + 1) - (p : Int)
abbrev rLen (K : PySem.W.Frag) : List V → Hp → VK → Prop := fun xs H Q => ∃ p ys, xs = [.ref p] ∧ (SqL K H p ys ∨ SqT K H p ys) ∧ Q (.int ys.length) H
abbrev tFound (K : PySem.W.Frag) (T : TbA) (j : Nat) : TE := tLc (iList K (tVar 0)) (gName j) tYes (tCall (spCheck K T) [] E0 (tCons (tVar j) (tCons (tVar 1) tNil))) [j]
abbrev tLong (K : PySem.W.Frag) (j : Nat) : TE := tCKw (rMaxDef K) (tCons (tLc (iList K (tVar 2)) (gName j) tYes (tCB (rLen K) (tCons (tVar j) tNil)) [j]) tNil) (tCons (tC (.int 0)) tNil)
theorem longest_le {ls : List (List Nat)} {n : Nat} (h : ∀ l ∈ ls, l.length ≤ n) : longest ls ≤ n := by
  have e : longest ls = longest ls := rfl
  rcases foldl_max_mem (ls.map List.length) 0 with z | z
  · unfold longest
    rw [z]
    exact Nat.zero_le n
  · obtain ⟨l, hl, e2⟩ := List.mem_map.mp z
    unfold longest
    rw [← e2]
    exact h l hl
section
variable {P : Program} {w : World} {K : PySem.W.Frag} {mg : Str → Option Value} {base : Heap} {T : TbA}
/-- [check_list(order, many) for order in lists] -/
theorem rd_found {σ : L2.St} {H : Hp} {a : Addr} {ts : List Addr} {ls : List (List Nat)} {m j : Nat} {Q : VK} (O : LsOk K H a ts ls m) (hT : Tb T H) (h0 : σ[0]? = some (some (.ref a))) (hσ : ∀ x : V, ((wipe σ [j]).set j (some x))[j]? = some (some x) ∧ ((wipe σ [j]).set j (some x))[1]? = some (some (iv m)) ∧ wipe ((wipe σ [j]).set j (some x)) [j] = wipe σ [j])
    (q : ∀ H' D, Xo T nM H H' → H' D = some (.lst (ts.map V.ref)) → Q (.ref D) H') : tFound K T j σ H Q := by
  refine ⟨_, h0, a, rfl, ⟨_, O.L⟩, fun D hD => lc_list (K := K) (a := a) (xs := ts.map V.ref) (fun i H' => Xo T nM H H' ∧ H' D = some (.lst ((ts.take i).map V.ref)))
    ⟨Xo.new1 hD, upd_same⟩ (fun i H' _ ⟨x, _⟩ => x.sL O.L) (fun i x H' hi ⟨hx, hF⟩ => ?_) (fun H' ⟨hx, hF⟩ => ?_)⟩
  · rw [List.getElem?_map] at hi
    cases et : ts[i]? with
    | none => rw [et] at hi; cases hi
    | some t =>
      rw [et] at hi
      obtain rfl : V.ref t = x := Option.some.inj hi
      obtain ⟨l, el, htl⟩ := paired_get O.hls et
      obtain ⟨l1, l2, l3⟩ := O.ok l (List.mem_of_getElem? el)
      obtain ⟨s1, s2, s3⟩ := hσ (.ref t)
      refine ⟨s3, ?_⟩
      refine ⟨_, s1, _, s2, t, l, m, rfl, hx.sT htl, l1, l2, by omega, hx.tb hT, fun H2 x2 => ?_⟩
      have hF2 := x2.lst hF (fun z => z)
      have := O.len
      have hlen : ts.length = ls.length := Paired.length O.hls
      refine ⟨_, hF2, by rw [List.length_map, List.length_take, sizeLine_eq]; omega, (hx.trans x2).mut (.inl hD) (by rw [hF2]; exact Soft.lst), ?_⟩
      rw [upd_same, List.take_add_one, et, List.map_append]
      rfl
  · rw [List.length_map, List.take_of_length_le (Nat.le_refl _)] at hF
    exact q H' D hx hF
/-- max([len(order) for order in found], default=0) -/
theorem rd_long {σ : L2.St} {H : Hp} {a : Addr} {ts : List Addr} {ls : List (List Nat)} {j : Nat} {Q : VK} (hL : SqL K H a (ts.map V.ref)) (hls : Lsts K H ts ls) (hlen : ls.length ≤ 50) (h0 : σ[2]? = some (some (.ref a))) (hσ : ∀ x : V, ((wipe σ [j]).set j (some x))[j]? = some (some x) ∧ wipe ((wipe σ [j]).set j (some x)) [j] = wipe σ [j])
    (q : ∀ H', Xo T nM H H' → Q (iv (longest ls)) H') : tLong K j σ H Q := by
  refine ⟨_, h0, a, rfl, ⟨_, hL⟩, fun D hD => lc_list (K := K) (a := a) (xs := ts.map V.ref) (fun i H' => Xo T nM H H' ∧ H' D = some (.lst ((ls.take i).map fun l => iv l.length)))
    ⟨Xo.new1 hD, upd_same⟩ (fun i H' _ ⟨x, _⟩ => x.sL hL) (fun i x H' hi ⟨hx, hF⟩ => ?_) (fun H' ⟨hx, hF⟩ => ?_)⟩
  · rw [List.getElem?_map] at hi
    cases et : ts[i]? with
    | none => rw [et] at hi; cases hi
    | some t =>
      rw [et] at hi
      obtain rfl : V.ref t = x := Option.some.inj hi
      obtain ⟨l, el, htl⟩ := paired_get hls et
      obtain ⟨s1, s3⟩ := hσ (.ref t)
      refine ⟨s3, ?_⟩
      refine ⟨_, s1, t, _, rfl, .inr (hx.sT htl), ?_⟩
      refine ⟨_, hF, by rw [List.length_map, List.length_take, sizeLine_eq]; omega, hx.mut (.inl hD) (by rw [hF]; exact Soft.lst), ?_⟩
      rw [upd_same, List.take_add_one, el, List.map_append, List.length_map]
      rfl
  · have hlen2 : ts.length = ls.length := Paired.length hls
    rw [List.length_map, hlen2, List.take_of_length_le (Nat.le_refl _)] at hF
    have eF : (ls.map fun l => iv l.length) = (ls.map fun l => (l.length : Int)).map V.int := by rw [List.map_map]; rfl
    rw [eF] at hF
    refine ⟨D, _, .int 0, rfl, rfl, SqL.of hF, fun e => ?_, fun mx hm hmx => ?_⟩
    · have e2 : longest ls = 0 := by
        have : ls = [] := by simpa using e
        rw [this]
        rfl
      have := q H' hx
      rw [e2] at this
      exact this
    · obtain ⟨l, hl, rfl⟩ := List.mem_map.mp hm
      have e2 : longest ls = l.length := longest_of (.inr ⟨l, hl, rfl⟩) fun l' hl' => by
        have := hmx _ (List.mem_map.mpr ⟨l', hl', rfl⟩)
        omega
      have := q H' hx
      rw [e2] at this
      exact this
abbrev mfN : List Str := ["lists", "many", "found", "longest", "order"]
theorem scFirsts : FnScope mfN ["lists", "many"] (defScope sFirsts) := ⟨rfl, rfl, rfl, by decide +kernel, rfl, by decide +kernel, by decide +kernel⟩
/-- what the three call -/
structure Knd (K : PySem.W.Frag) (mg : Str → Option Value) (base : Heap) (T : TbA) (P : Program) (w : World) (fc fb fw : Addr) (fdc fdb fdw : FuncData) : Prop where
  C : FnOk P w K mg base CX0 1 fc fdc ["order", "many"] (spCheck K T)
  kC : PySem.W.keepIn K (.ref fc) = true
  bC : Binds K fdc ["order", "many"] []
  gC : mg "check_list" = some (.ref fc)
  Y : FnOk P w K mg base CX0 4 fb fdb ["lists", "many", "weight"] (spBy K T)
  kY : PySem.W.keepIn K (.ref fb) = true
  bY : Binds K fdb ["lists", "many", "weight"] []
  gY : mg "by_weights" = some (.ref fb)
  W : FnOk P w K mg base CX0 1 fw fdw ["count", "base", "up"] (spWeights T)
  kW : PySem.W.keepIn K (.ref fw) = true
  bW : Binds K fdw ["count", "base", "up"] []
  gW : mg "weights" = some (.ref fw)
theorem Best.congr {ls : List (List Nat)} {w w' : Nat → Int} {g : List (Option Nat)} (h : Best ls w g) (e : ∀ p, p < longest ls → w p = w' p) : Best ls w' g := by
  have key : ∀ g, Giv ls g → wsum ls w g = wsum ls w' g := fun g hg => by
    refine sumTo_congr _ fun i _ => ?_
    unfold val
    cases eg : got g i with
    | none => rfl
    | some t => exact e _ (hg.place_lt eg)
  refine ⟨h.1, fun g' hg' => ?_⟩
  rw [← key g' hg', ← key g h.1]
  exact h.2 g' hg'
theorem ok_firsts {f fc fb fw : Addr} {fd fdc fdb fdw : FuncData} (F : Fun K "most_firsts" "most_firsts" sFirsts f fd) (B : Blt mg) (Z : Knd K mg base T P w fc fb fw fdc fdb fdw) : FnOk P w K mg base CX0 5 f fd ["lists", "many"] (spKind K T w1) := by
  refine F.ok scFirsts (fun vs H Q E h => ?_) (fun cdv A outer s H vs Q E hr h => ?_)
  · obtain ⟨a, ts, ls, m, rfl, _⟩ := h
    rfl
  · obtain ⟨a, ts, ls, m, rfl, O, hT, q⟩ := h
    have hr1 : Room 1 _ := hr.mono (by decide)
    refine ⟨_, pss_cons (ps_setLc (i := 2) (own := [("order", 4)]) (g := gName 4) (tt := tYes) (te := tCall (spCheck K T) [] E0 (tCons (tVar 4) (tCons (tVar 1) tNil))) rfl scFirsts.nd rfl rfl (sw_true rfl rfl rfl (by decide +kernel)) (pi_list (pv 0))
          (blkOk_by (N := mfN) (sc := defScope sFirsts) (by decide +kernel)) (fun _ _ _ _ _ => pg_name (i := 4) scFirsts.nd rfl (Or.inl rfl)) (fun _ _ _ _ _ => pts_nil) (fun _ _ _ _ _ => pe_call Z.C (hr1.mono (by decide)) rfl Z.gC Z.kC Z.bC .nil pass0 (pa_cons (pv 4) (pa_cons (pv 1) pa_nil))))
      (pss_cons (ps_set (i := 3) scFirsts.nd rfl (Or.inl rfl) (pe_callBK (cr_maxDef hr) (by rfl) B.max PyProof.Rows.boot_max (pa_cons (pe_lc (own := [("order", 4)]) (g := gName 4) (tt := tYes) (te := tCB (rLen K) (tCons (tVar 4) tNil)) rfl scFirsts.nd (pi_list (pv 2)) (blkOk_by (N := mfN) (sc := defScope sFirsts) (by decide +kernel))
          (fun _ _ _ _ _ => pg_name (i := 4) scFirsts.nd rfl (Or.inl rfl)) (fun _ _ _ _ _ => pts_nil) (fun _ _ _ _ _ => pe_callB call_len_seq (by rfl) B.len PySem.boot_len (pa_cons (pv 4) pa_nil))) pa_nil) (pk_cons pe_int pk_nil)))
      (pss_one (ps_ret (pe_call Z.Y (hr.mono (by decide)) rfl Z.gY Z.kY Z.bY .nil pass0 (pa_cons (pv 2) (pa_cons (pv 1) (pa_cons (pe_call Z.W hr1 rfl Z.gW Z.kW Z.bW .nil pass0 (pa_cons (pv 3) (pa_cons (pe_op op_add (pe_callB call_len_seq (by rfl) B.len PySem.boot_len (pa_cons (pv 2) pa_nil)) pe_int) (pa_cons pe_bl pa_nil)))) pa_nil))))))), ?_⟩
    unfold tSeq tAsg
    refine rd_found (T := T) (K := K) (σ := L2.start mfN [.ref a, iv m]) (j := 4) (ls := ls) O hT rfl (fun x => ⟨rfl, rfl, rfl⟩) fun H1 D x1 hD => ?_
    have O1 := O.xo x1
    refine rd_long (T := T) (K := K) (σ := [some (.ref a), some (iv m), some (.ref D), none, none]) (j := 4) (a := D) (ts := ts) (ls := ls) (SqL.of hD) O1.hls O.len rfl (fun x => ⟨rfl, rfl⟩) fun H2 x2 => ?_
    have hD2 := x2.lst hD (fun z => z)
    have hlen : ts.length = ls.length := Paired.length O.hls
    have hlong := longest_le fun l hl => (O.ok l hl).2.2
    refine ⟨_, rfl, _, rfl, _, rfl, _, rfl, D, _, rfl, .inl (SqL.of hD2), _, _, rfl, rfl, longest ls, (ls.length : Int) + 1, true, ?_, by omega, by omega, by have := O.len; omega, fun H3 ws x3 hws hwL => ?_⟩
    · rw [List.length_map, hlen]
      rfl
    · have O3 := (O1.xo x2).xo x3
      have hwl : longest ls ≤ wLen (longest ls) := by unfold wLen; split <;> omega
      refine ⟨D, ws, ts, ls, m, wLen (longest ls), (fun i => ((ls.length : Int) + 1) ^ (wLen (longest ls) - 1 - i)), rfl, SqL.of (x3.lst hD2 (fun z => z)), O3.hls, O.ne, fun l hl => ⟨(O.ok l hl).1, (O.ok l hl).2.1, Nat.le_trans (le_longest hl) hwl⟩, SqL.of hwL, fun i _ => Int.le_of_lt (pow_pos' (by omega) _), by have := O.len; omega, O.hm, (x3.tb (x2.tb (x1.tb hT))), fun H4 t g x4 ht hb => ?_⟩
      refine q H4 t g (((x1.trans x2).trans x3).trans x4) ht (hb.congr fun p hp => ?_)
      have : wLen (longest ls) = longest ls := by unfold wLen; rw [if_neg (by omega)]
      rw [this]
      rfl
end
end G3

set_option Elab.async false
set_option linter.all false
set_option maxRecDepth 100000
set_option maxHeartbeats 2000000
namespace G3
open PySem PySem.Spec PyProof.Rows L2
abbrev flN : List Str := ["lists", "many", "found", "longest", "steps", "whole", "order", "step"]
theorem scLasts : FnScope flN ["lists", "many"] (defScope sLasts) := ⟨rfl, rfl, rfl, by decide +kernel, rfl, by decide +kernel, by decide +kernel⟩
abbrev lsN : List Str := ["lists", "many", "found", "longest", "whole", "order", "place"]
theorem scLeast : FnScope lsN ["lists", "many"] (defScope sLeast) := ⟨rfl, rfl, rfl, by decide +kernel, rfl, by decide +kernel, by decide +kernel⟩
theorem cut_fl (f : Nat → V) (L : Nat) : cutV (fl f (L + 1)) none (some (L : Int)) = fl f L := by
  unfold cutV
  rw [HT.sIx_none, HT.sIx_nat, fl_len, List.drop_zero, Nat.sub_zero, Nat.min_eq_left (Nat.le_succ L), fl_snoc, List.take_append_of_le_length (by rw [fl_len]; exact Nat.le_refl _), List.take_of_length_le (by rw [fl_len]; exact Nat.le_refl _)]
section
variable {P : Program} {w : World} {K : PySem.W.Frag} {mg : Str → Option Value} {base : Heap} {T : TbA}
theorem ok_lasts {f fc fb fw : Addr} {fd fdc fdb fdw : FuncData} (F : Fun K "fewest_lasts" "fewest_lasts" sLasts f fd) (B : Blt mg) (Z : Knd K mg base T P w fc fb fw fdc fdb fdw) : FnOk P w K mg base CX0 5 f fd ["lists", "many"] (spKind K T w2) := by
  refine F.ok scLasts (fun vs H Q E h => ?_) (fun cdv A outer s H vs Q E hr h => ?_)
  · obtain ⟨a, ts, ls, m, rfl, _⟩ := h
    rfl
  · obtain ⟨a, ts, ls, m, rfl, O, hT, q⟩ := h
    have hr1 : Room 1 _ := hr.mono (by decide)
    refine ⟨_, pss_cons (ps_setLc (i := 2) (own := [("order", 6)]) (g := gName 6) (tt := tYes) (te := tCall (spCheck K T) [] E0 (tCons (tVar 6) (tCons (tVar 1) tNil))) rfl scLasts.nd rfl rfl (sw_true rfl rfl rfl (by decide +kernel)) (pi_list (pv 0))
          (blkOk_by (N := flN) (sc := defScope sLasts) (by decide +kernel)) (fun _ _ _ _ _ => pg_name (i := 6) scLasts.nd rfl (Or.inl rfl)) (fun _ _ _ _ _ => pts_nil) (fun _ _ _ _ _ => pe_call Z.C (hr1.mono (by decide)) rfl Z.gC Z.kC Z.bC .nil pass0 (pa_cons (pv 6) (pa_cons (pv 1) pa_nil))))
      (pss_cons (ps_set (i := 3) scLasts.nd rfl (Or.inl rfl) (pe_callBK (cr_maxDef hr) (by rfl) B.max PyProof.Rows.boot_max (pa_cons (pe_lc (own := [("order", 6)]) (g := gName 6) (tt := tYes) (te := tCB (rLen K) (tCons (tVar 6) tNil)) rfl scLasts.nd (pi_list (pv 2)) (blkOk_by (N := flN) (sc := defScope sLasts) (by decide +kernel))
          (fun _ _ _ _ _ => pg_name (i := 6) scLasts.nd rfl (Or.inl rfl)) (fun _ _ _ _ _ => pts_nil) (fun _ _ _ _ _ => pe_callB call_len_seq (by rfl) B.len PySem.boot_len (pa_cons (pv 6) pa_nil))) pa_nil) (pk_cons pe_int pk_nil)))
      (pss_cons (ps_set (i := 4) scLasts.nd rfl (Or.inl rfl) (pe_call Z.W hr1 rfl Z.gW Z.kW Z.bW .nil pass0 (pa_cons (pe_op op_add (pv 3) pe_int) (pa_cons (pe_op op_add (pe_callB call_len_seq (by rfl) B.len PySem.boot_len (pa_cons (pv 2) pa_nil)) pe_int) (pa_cons pe_bl pa_nil)))))
      (pss_cons (ps_set (i := 5) scLasts.nd rfl (Or.inr rfl) (pe_op op_mul (pe_ix ix_list (pv 4) (pe_un un_neg pe_int) (fun _ _ => rfl)) (pe_op op_add (pe_callB call_len_seq (by rfl) B.len PySem.boot_len (pa_cons (pv 2) pa_nil)) pe_int)))
      (pss_one (ps_ret (pe_call Z.Y (hr.mono (by decide)) rfl Z.gY Z.kY Z.bY .nil pass0 (pa_cons (pv 2) (pa_cons (pv 1) (pa_cons (pe_lc (own := [("step", 7)]) (g := gName 7) (tt := tYes) (te := tOp (rI0 fun i j => .int (i - j)) (tVar 5) (tVar 7)) rfl scLasts.nd (pi_list (pe_slice sl_list (pv 4) po_none (po_some (pv 3))))
          (blkOk_by (N := flN) (sc := defScope sLasts) (by decide +kernel)) (fun _ _ _ _ _ => pg_name (i := 7) scLasts.nd rfl (Or.inl rfl)) (fun _ _ _ _ _ => pts_nil) (fun _ _ _ _ _ => pe_op op_sub (pv 5) (pv 7))) pa_nil))))))))), ?_⟩
    unfold tSeq tAsg
    refine rd_found (T := T) (K := K) (σ := L2.start flN [.ref a, iv m]) (j := 6) (ls := ls) O hT rfl (fun x => ⟨rfl, rfl, rfl⟩) fun H1 D x1 hD => ?_
    have O1 := O.xo x1
    refine rd_long (T := T) (K := K) (σ := [some (.ref a), some (iv m), some (.ref D), none, none, none, none, none]) (j := 6) (a := D) (ts := ts) (ls := ls) (SqL.of hD) O1.hls O.len rfl (fun x => ⟨rfl, rfl⟩) fun H2 x2 => ?_
    have hD2 := x2.lst hD (fun z => z)
    have hlen : ts.length = ls.length := Paired.length O.hls
    have hlong := longest_le fun l hl => (O.ok l hl).2.2
    have hl50 := O.len
    refine ⟨_, rfl, _, _, rfl, rfl, _, rfl, D, _, rfl, .inl (SqL.of hD2), _, _, rfl, rfl, longest ls + 1, (ls.length : Int) + 1, false, ?_, by omega, by omega, by omega, fun H3 st x3 hst hsL => ?_⟩
    · rw [List.length_map, hlen]
      rfl
    · have O3 := (O1.xo x2).xo x3
      have hD3 := x3.lst hD2 (fun z => z)
      have ew : wLen (longest ls + 1) = longest ls + 1 := by unfold wLen; rw [if_neg (by omega)]
      rw [ew] at hsL
      have ef : (fun i => V.int (if false = true then ((ls.length : Int) + 1) ^ (longest ls + 1 - 1 - i) else ((ls.length : Int) + 1) ^ i)) = fun i => V.int (((ls.length : Int) + 1) ^ i) := by
        funext i
        rw [if_neg Bool.false_ne_true]
      rw [ef] at hsL
      have hsL2 := hsL
      rw [fl_snoc] at hsL2
      refine ⟨_, rfl, _, rfl, st, _, _, .int (((ls.length : Int) + 1) ^ longest ls), rfl, rfl, SqL.of hsL2, atI_last _ _, _, rfl, D, _, rfl, .inl (SqL.of hD3), _, _, rfl, rfl, ((ls.length : Int) + 1) ^ longest ls, (ls.length : Int) + 1, rfl, by rw [List.length_map, hlen], .inr ⟨by omega, by omega⟩, ?_⟩
      refine ⟨_, rfl, _, rfl, _, rfl, _, rfl, _, rfl, st, _, rfl, SqL.of hsL, fun sl hsl => ?_⟩
      rw [cut_fl]
      have x4 : Xo T nM H3 (upd H3 sl (.lst (fl (fun i => .int (((ls.length : Int) + 1) ^ i)) (longest ls)))) := .new1 hsl
      refine ⟨sl, rfl, ⟨_, SqL.of upd_same⟩, fun D2 hD2' => lc_list (K := K) (a := sl) (xs := fl (fun i => .int (((ls.length : Int) + 1) ^ i)) (longest ls)) (fun i H' => Xo T nM (upd H3 sl (.lst (fl (fun i => .int (((ls.length : Int) + 1) ^ i)) (longest ls)))) H' ∧ H' D2 = some (.lst (fl (fun i => .int (w2 ls i)) i)))
        ⟨Xo.new1 hD2', upd_same⟩ (fun i H' _ ⟨y, _⟩ => y.sL (SqL.of upd_same)) (fun i xv H' hi ⟨y, hF⟩ => ?_) (fun H' ⟨y, hF⟩ => ?_)⟩
      · have hin : i < longest ls := by
          have := (List.getElem?_eq_some_iff.mp hi).1
          rw [fl_len] at this
          exact this
        rw [fl_get hin] at hi
        obtain rfl : V.int (((ls.length : Int) + 1) ^ i) = xv := Option.some.inj hi
        refine ⟨rfl, ?_⟩
        refine ⟨_, rfl, _, rfl, _, _, rfl, rfl, _, hF, by rw [fl_len, sizeLine_eq]; omega, y.mut (.inl hD2') (by rw [hF]; exact Soft.lst), ?_⟩
        rw [upd_same, fl_snoc]
        rfl
      · rw [fl_len] at hF
        have xx := (((x1.trans x2).trans x3).trans x4).trans y
        refine ⟨D, D2, ts, ls, m, longest ls, w2 ls, rfl, SqL.of ((x4.trans y).lst hD3 (fun z => z)), ((O3.xo x4).xo y).hls, O.ne, fun l hl => ⟨(O.ok l hl).1, (O.ok l hl).2.1, le_longest hl⟩, SqL.of hF, fun i hi => ?_, by omega, O.hm, xx.tb hT, fun H5 t g x5 ht hb => q H5 t g (xx.trans x5) ht hb⟩
        unfold w2
        have b1 : (1 : Int) ≤ (ls.length : Int) + 1 := by omega
        have p1 := pow_pos' (b := (ls.length : Int) + 1) (by omega) i
        have e1 : ((ls.length : Int) + 1) ^ longest ls = ((ls.length : Int) + 1) ^ i * ((ls.length : Int) + 1) ^ (longest ls - i) := by
          rw [← Int.pow_add]
          congr 1
          omega
        have p2 := pow_pos' (b := (ls.length : Int) + 1) (by omega) (longest ls - i)
        have h1 : ((ls.length : Int) + 1) ^ i ≤ ((ls.length : Int) + 1) ^ longest ls := by
          rw [e1]
          have := Int.mul_le_mul_of_nonneg_left (c := ((ls.length : Int) + 1) ^ i) (a := 1) (b := ((ls.length : Int) + 1) ^ (longest ls - i)) (by omega) (by omega)
          rw [Int.mul_one] at this
          exact this
        have p3 := pow_pos' (b := (ls.length : Int) + 1) (by omega) (longest ls)
        have h2 : ((ls.length : Int) + 1) ^ longest ls ≤ ((ls.length : Int) + 1) ^ longest ls * ((ls.length : Int) + 1) := by
          have := Int.mul_le_mul_of_nonneg_left (c := ((ls.length : Int) + 1) ^ longest ls) (a := 1) (b := (ls.length : Int) + 1) (by omega) (by omega)
          rw [Int.mul_one] at this
          exact this
        omega
theorem ok_least {f fc fb fw : Addr} {fd fdc fdb fdw : FuncData} (F : Fun K "least_sum" "least_sum" sLeast f fd) (B : Blt mg) (Z : Knd K mg base T P w fc fb fw fdc fdb fdw) : FnOk P w K mg base CX0 5 f fd ["lists", "many"] (spKind K T w3) := by
  refine F.ok scLeast (fun vs H Q E h => ?_) (fun cdv A outer s H vs Q E hr h => ?_)
  · obtain ⟨a, ts, ls, m, rfl, _⟩ := h
    rfl
  · obtain ⟨a, ts, ls, m, rfl, O, hT, q⟩ := h
    have hr1 : Room 1 _ := hr.mono (by decide)
    refine ⟨_, pss_cons (ps_setLc (i := 2) (own := [("order", 5)]) (g := gName 5) (tt := tYes) (te := tCall (spCheck K T) [] E0 (tCons (tVar 5) (tCons (tVar 1) tNil))) rfl scLeast.nd rfl rfl (sw_true rfl rfl rfl (by decide +kernel)) (pi_list (pv 0))
          (blkOk_by (N := lsN) (sc := defScope sLeast) (by decide +kernel)) (fun _ _ _ _ _ => pg_name (i := 5) scLeast.nd rfl (Or.inl rfl)) (fun _ _ _ _ _ => pts_nil) (fun _ _ _ _ _ => pe_call Z.C (hr1.mono (by decide)) rfl Z.gC Z.kC Z.bC .nil pass0 (pa_cons (pv 5) (pa_cons (pv 1) pa_nil))))
      (pss_cons (ps_set (i := 3) scLeast.nd rfl (Or.inl rfl) (pe_callBK (cr_maxDef hr) (by rfl) B.max PyProof.Rows.boot_max (pa_cons (pe_lc (own := [("order", 5)]) (g := gName 5) (tt := tYes) (te := tCB (rLen K) (tCons (tVar 5) tNil)) rfl scLeast.nd (pi_list (pv 2)) (blkOk_by (N := lsN) (sc := defScope sLeast) (by decide +kernel))
          (fun _ _ _ _ _ => pg_name (i := 5) scLeast.nd rfl (Or.inl rfl)) (fun _ _ _ _ _ => pts_nil) (fun _ _ _ _ _ => pe_callB call_len_seq (by rfl) B.len PySem.boot_len (pa_cons (pv 5) pa_nil))) pa_nil) (pk_cons pe_int pk_nil)))
      (pss_cons (ps_set (i := 4) scLeast.nd rfl (Or.inr rfl) (pe_op op_mul (pe_op op_add (pv 3) pe_int) (pe_op op_add (pe_callB call_len_seq (by rfl) B.len PySem.boot_len (pa_cons (pv 2) pa_nil)) pe_int)))
      (pss_one (ps_ret (pe_call Z.Y (hr.mono (by decide)) rfl Z.gY Z.kY Z.bY .nil pass0 (pa_cons (pv 2) (pa_cons (pv 1) (pa_cons (pe_lc (own := [("place", 6)]) (g := gName 6) (tt := tYes) (te := tOp (rI0 fun i j => .int (i - j)) (tVar 4) (tVar 6)) rfl scLeast.nd (pi_range1 (by rfl) B.range (pa_cons (pv 3) pa_nil))
          (blkOk_by (N := lsN) (sc := defScope sLeast) (by decide +kernel)) (fun _ _ _ _ _ => pg_name (i := 6) scLeast.nd rfl (Or.inl rfl)) (fun _ _ _ _ _ => pts_nil) (fun _ _ _ _ _ => pe_op op_sub (pv 4) (pv 6))) pa_nil)))))))), ?_⟩
    unfold tSeq tAsg
    refine rd_found (T := T) (K := K) (σ := L2.start lsN [.ref a, iv m]) (j := 5) (ls := ls) O hT rfl (fun x => ⟨rfl, rfl, rfl⟩) fun H1 D x1 hD => ?_
    have O1 := O.xo x1
    refine rd_long (T := T) (K := K) (σ := [some (.ref a), some (iv m), some (.ref D), none, none, none, none]) (j := 5) (a := D) (ts := ts) (ls := ls) (SqL.of hD) O1.hls O.len rfl (fun x => ⟨rfl, rfl⟩) fun H2 x2 => ?_
    have hD2 := x2.lst hD (fun z => z)
    have hlen : ts.length = ls.length := Paired.length O.hls
    have hlong := longest_le fun l hl => (O.ok l hl).2.2
    have hl50 := O.len
    refine ⟨_, rfl, _, _, rfl, rfl, _, rfl, D, _, rfl, .inl (SqL.of hD2), _, _, rfl, rfl, (longest ls : Int) + 1, (ls.length : Int) + 1, rfl, by rw [List.length_map, hlen], .inl ⟨by omega, by omega⟩, ?_⟩
    refine ⟨_, rfl, _, rfl, _, rfl, _, rfl, by omega, by omega, fun D2 hD2' => lc_range (lo := 0) (n := longest ls) (fun i H' => Xo T nM H2 H' ∧ H' D2 = some (.lst (fl (fun i => .int (w3 ls i)) i)))
      ⟨Xo.new1 hD2', upd_same⟩ (fun i H' hi ⟨y, hF⟩ => ?_) (fun H' ⟨y, hF⟩ => ?_)⟩
    · refine ⟨rfl, ?_⟩
      rw [Int.zero_add]
      refine ⟨_, rfl, _, rfl, _, _, rfl, rfl, _, hF, by rw [fl_len, sizeLine_eq]; omega, y.mut (.inl hD2') (by rw [hF]; exact Soft.lst), ?_⟩
      rw [upd_same, fl_snoc]
      rfl
    · have xx := (x1.trans x2).trans y
      refine ⟨D, D2, ts, ls, m, longest ls, w3 ls, rfl, SqL.of (y.lst hD2 (fun z => z)), ((O1.xo x2).xo y).hls, O.ne, fun l hl => ⟨(O.ok l hl).1, (O.ok l hl).2.1, le_longest hl⟩, SqL.of hF, fun i hi => ?_, by omega, O.hm, xx.tb hT, fun H5 t g x5 ht hb => q H5 t g (xx.trans x5) ht hb⟩
      unfold w3
      have := Int.mul_le_mul_of_nonneg_left (c := (longest ls : Int) + 1) (a := 1) (b := (ls.length : Int) + 1) (by omega) (by omega)
      rw [Int.mul_one] at this
      omega
end
end G3

set_option Elab.async false
set_option linter.all false
set_option maxRecDepth 100000
set_option maxHeartbeats 2000000
namespace G3
open PySem PySem.Spec PyProof.Rows L2
theorem idx_first {l : List Nat} {t : Nat} : ∀ m, m < l.idxOf t → l[m]? ≠ some t := by
  induction l with
  | nil => intro m h e; simp at e
  | cons a l ih =>
    intro m h e
    rw [List.idxOf_cons] at h
    by_cases ha : a = t
    · rw [ha] at h
      simp at h
    · have hb : (a == t) = false := beq_eq_false_iff_ne.mpr ha
      rw [hb] at h
      cases m with
      | zero =>
        have : a = t := Option.some.inj e
        exact ha this
      | succ m =>
        exact ih m (by simpa using h) (by simpa using e)
theorem idx_at {l : List Nat} {t : Nat} (h : t ∈ l) : l[l.idxOf t]? = some t := by
  have hl := List.idxOf_lt_length_iff.mpr h
  rw [List.getElem?_eq_getElem hl]
  congr 1
  exact List.getElem_idxOf hl
theorem eqV_iv (a b : Nat) : eqV (iv a) (iv b) = decide (a = b) := by
  show ((a : Int) == (b : Int)) = decide (a = b)
  by_cases h : a = b
  · simp [h]
  · rw [decide_eq_false h]
    exact beq_eq_false_iff_ne.mpr fun z => h (by omega)
/-- the place of a thing in a list of ints -/
theorem ix_nats {l : List Nat} {t : Nat} (h : t ∈ l) : (l.map iv)[l.idxOf t]? = some (iv t) ∧ eqV (iv t) (iv t) = true ∧ ∀ (m : Nat) (z : V), m < l.idxOf t → (l.map iv)[m]? = some z → eqV z (iv t) = false := by
  refine ⟨by rw [List.getElem?_map, idx_at h]; rfl, by rw [eqV_iv]; simp, fun m z hm hz => ?_⟩
  rw [List.getElem?_map] at hz
  cases e : l[m]? with
  | none => rw [e] at hz; cases hz
  | some a =>
    rw [e] at hz
    obtain rfl : iv a = z := Option.some.inj hz
    rw [eqV_iv]
    exact decide_eq_false fun z => idx_first m hm (by rw [e, z])
/-- [len(order) for order in lists] -/
abbrev tLens (K : PySem.W.Frag) (s j : Nat) : TE := tLc (iList K (tVar s)) (gName j) tYes (tCB (rLen K) (tCons (tVar j) tNil)) [j]
theorem rd_lens {K : PySem.W.Frag} {T : TbA} {σ : L2.St} {H : Hp} {a : Addr} {ts : List Addr} {ls : List (List Nat)} {s j : Nat} {Q : VK} (hL : SqL K H a (ts.map V.ref)) (hls : Lsts K H ts ls) (hlen : ls.length ≤ 50) (h0 : σ[s]? = some (some (.ref a))) (hσ : ∀ x : V, ((wipe σ [j]).set j (some x))[j]? = some (some x) ∧ wipe ((wipe σ [j]).set j (some x)) [j] = wipe σ [j])
    (q : ∀ H' D, Xo T nM H H' → H' D = some (.lst ((ls.map fun l => (l.length : Int)).map V.int)) → Q (.ref D) H') : tLens K s j σ H Q := by
  refine ⟨_, h0, a, rfl, ⟨_, hL⟩, fun D hD => lc_list (K := K) (a := a) (xs := ts.map V.ref) (fun i H' => Xo T nM H H' ∧ H' D = some (.lst ((ls.take i).map fun l => iv l.length)))
    ⟨Xo.new1 hD, upd_same⟩ (fun i H' _ ⟨x, _⟩ => x.sL hL) (fun i x H' hi ⟨hx, hF⟩ => ?_) (fun H' ⟨hx, hF⟩ => ?_)⟩
  · rw [List.getElem?_map] at hi
    cases et : ts[i]? with
    | none => rw [et] at hi; cases hi
    | some t =>
      rw [et] at hi
      obtain rfl : V.ref t = x := Option.some.inj hi
      obtain ⟨l, el, htl⟩ := paired_get hls et
      obtain ⟨s1, s3⟩ := hσ (.ref t)
      refine ⟨s3, ?_⟩
      refine ⟨_, s1, t, _, rfl, .inr (hx.sT htl), ?_⟩
      refine ⟨_, hF, by rw [List.length_map, List.length_take, sizeLine_eq]; omega, hx.mut (.inl hD) (by rw [hF]; exact Soft.lst), ?_⟩
      rw [upd_same, List.take_add_one, el, List.map_append, List.length_map]
      rfl
  · have hlen2 : ts.length = ls.length := Paired.length hls
    rw [List.length_map, hlen2, List.take_of_length_le (Nat.le_refl _)] at hF
    have eF : (ls.map fun l => iv l.length) = (ls.map fun l => (l.length : Int)).map V.int := by rw [List.map_map]; rfl
    rw [eF] at hF
    exact q H' D hx hF
theorem longest_int {ls : List (List Nat)} {mx : Int} (hm : mx ∈ ls.map fun l => (l.length : Int)) (hmx : ∀ y ∈ ls.map fun l => (l.length : Int), y ≤ mx) : mx = (longest ls : Int) := by
  obtain ⟨l, hl, rfl⟩ := List.mem_map.mp hm
  have e2 : longest ls = l.length := longest_of (.inr ⟨l, hl, rfl⟩) fun l' hl' => by
    have := hmx _ (List.mem_map.mpr ⟨l', hl', rfl⟩)
    omega
  rw [e2]
abbrev tLongS (K : PySem.W.Frag) (s j : Nat) : TE := tCKw (rMaxDef K) (tCons (tLens K s j) tNil) (tCons (tC (.int 0)) tNil)
theorem rd_longS {K : PySem.W.Frag} {T : TbA} {σ : L2.St} {H : Hp} {a : Addr} {ts : List Addr} {ls : List (List Nat)} {s j : Nat} {Q : VK} (hL : SqL K H a (ts.map V.ref)) (hls : Lsts K H ts ls) (hlen : ls.length ≤ 50) (h0 : σ[s]? = some (some (.ref a))) (hσ : ∀ x : V, ((wipe σ [j]).set j (some x))[j]? = some (some x) ∧ wipe ((wipe σ [j]).set j (some x)) [j] = wipe σ [j])
    (q : ∀ H', Xo T nM H H' → Q (iv (longest ls)) H') : tLongS K s j σ H Q := by
  unfold tLongS tCKw tCons
  refine rd_lens (T := T) hL hls hlen h0 hσ fun H1 D x1 hD => ?_
  refine ⟨D, _, .int 0, rfl, rfl, SqL.of hD, fun e => ?_, fun mx hm hmx => ?_⟩
  · have e2 : longest ls = 0 := by
      have : ls = [] := by simpa using e
      rw [this]
      rfl
    have := q H1 x1
    rw [e2] at this
    exact this
  · rw [longest_int hm hmx]
    exact q H1 x1
/-! ### profile -/
/-- lists read, a giving over them -/
structure PrOk (K : PySem.W.Frag) (H : Hp) (a g0 : Addr) (ts : List Addr) (ls : List (List Nat)) (g : List (Option Nat)) : Prop where
  L : SqL K H a (ts.map V.ref)
  hls : Lsts K H ts ls
  len : ls.length ≤ 50
  long : ∀ l ∈ ls, l.length ≤ 50
  G : SqT K H g0 (g.map keyV)
  giv : Giv ls g
theorem PrOk.xo {K : PySem.W.Frag} {T : TbA} {H H' : Hp} {a g0 : Addr} {ts : List Addr} {ls : List (List Nat)} {g : List (Option Nat)} (h : PrOk K H a g0 ts ls g) (x : Xo T nM H H') : PrOk K H' a g0 ts ls g :=
  ⟨x.sL h.L, Paired.mapP h.hls fun _ _ z => x.sT z, h.len, h.long, x.sT h.G, h.giv⟩
def spProfile (K : PySem.W.Frag) (T : TbA) : Sp := fun vs H Q _ => ∃ (a g0 : Addr) (ts : List Addr) (ls : List (List Nat)) (g : List (Option Nat)), vs = [.ref a, .ref g0] ∧ PrOk K H a g0 ts ls g ∧
  ∀ H' t, Xo T nM H H' → H t = none → H' t = some (.tup ((prof ls g).map V.int)) → Q (.ref t) H'
abbrev pfN : List Str := ["lists", "given", "longest", "found", "one", "thing", "order"]
theorem scProfile : FnScope pfN ["lists", "given"] (defScope sProfile) := ⟨rfl, rfl, rfl, by decide +kernel, rfl, by decide +kernel, by decide +kernel⟩
section
variable {P : Program} {w : World} {K : PySem.W.Frag} {mg : Str → Option Value} {base : Heap} {T : TbA}
theorem ok_profile {f : Addr} {fd : FuncData} (F : Fun K "profile" "profile" sProfile f fd) (B : Blt mg) : FnOk P w K mg base CX0 1 f fd ["lists", "given"] (spProfile K T) := by
  refine F.ok scProfile (fun vs H Q E h => ?_) (fun cdv A outer s H vs Q E hr h => ?_)
  · obtain ⟨a, g0, ts, ls, g, rfl, _⟩ := h
    rfl
  · obtain ⟨a, g0, ts, ls, g, rfl, O, q⟩ := h
    refine ⟨_, pss_cons (ps_set (i := 2) scProfile.nd rfl (Or.inl rfl) (pe_callBK (cr_maxDef hr) (by rfl) B.max PyProof.Rows.boot_max (pa_cons (pe_lc (own := [("order", 6)]) (g := gName 6) (tt := tYes) (te := tCB (rLen K) (tCons (tVar 6) tNil)) rfl scProfile.nd (pi_list (pv 0)) (blkOk_by (N := pfN) (sc := defScope sProfile) (by decide +kernel))
          (fun _ _ _ _ _ => pg_name (i := 6) scProfile.nd rfl (Or.inl rfl)) (fun _ _ _ _ _ => pts_nil) (fun _ _ _ _ _ => pe_callB call_len_seq (by rfl) B.len PySem.boot_len (pa_cons (pv 6) pa_nil))) pa_nil) (pk_cons pe_int pk_nil)))
      (pss_cons (ps_set (i := 3) scProfile.nd rfl (Or.inl rfl) (pe_op op_rep (pe_lst (pa_cons pe_int pa_nil)) (pv 2)))
      (pss_cons (ps_for PassesOwn.never rfl (pi_enumT (by rfl) B.enumerate (pa_cons (pv 1) pa_nil)) (pg_tup rfl (pgs_cons (pg_name (i := 4) scProfile.nd rfl (Or.inl rfl)) (pgs_cons (pg_name (i := 5) scProfile.nd rfl (Or.inl rfl)) pgs_nil)))
        (pss_one (ps_if (pt_cmpR op_notN (pv 5) pe_non (nomark _))
          (pss_one (ps_augS (pv 3) (pe_bm PySem.F.plainAttrs_list PySem.F.slot_list_index PySem.F.type_list_index mt_index (pe_callTy call_list_of (by rfl) B.list (by decide +kernel) (pa_cons (pe_ix ix_list (pv 0) (pv 4) (fun _ _ => rfl)) pa_nil)) (pa_cons (pv 5) pa_nil)) get_list pe_int ip_add set_list)) pss_nil)))
      (pss_one (ps_ret (pe_callTy call_tuple_of (by rfl) B.tuple (by decide +kernel) (pa_cons (pv 3) pa_nil)))))), ?_⟩
    unfold tSeq tAsg
    refine rd_longS (T := T) (K := K) (σ := L2.start pfN [.ref a, .ref g0]) (s := 0) (j := 6) O.L O.hls O.len rfl (fun x => ⟨rfl, rfl⟩) fun H1 x1 => ?_
    have O1 := O.xo x1
    have hlong := longest_le O.long
    refine ⟨by show 1 ≤ sizeLine; decide, fun t1 h1 => ?_⟩
    refine ⟨_, rfl, t1, _, _, rfl, rfl, upd_same, by omega, by omega, by show 1 * ((longest ls : Int)).toNat ≤ sizeLine; rw [Int.toNat_natCast, sizeLine_eq]; omega, fun fo hfo => ?_⟩
    rw [rep_fl]
    have x2 : Xo T nM H1 (upd (upd H1 t1 (.lst [.int 0])) fo (.lst (fl (fun _ => .int 0) (longest ls)))) := (Xo.new1 h1).new hfo
    have nfo : H fo = none := (x1.new (o := .lst [.int 0]) h1).free hfo (fun z => z)
    have hgl : g.length = ls.length := O.giv.len
    have hlen : ts.length = ls.length := Paired.length O.hls
    have hl50 := O.len
    refine ⟨_, rfl, g0, _, rfl, x2.sT O1.G, for_enumT (K := K) (a := g0) (xs := g.map keyV) (fun i σ H' => ∃ z4 z5 : Option V, σ = [some (.ref a), some (.ref g0), some (iv (longest ls)), some (.ref fo), z4, z5, none] ∧ Xo T nM H H' ∧ H' fo = some (.lst (fl (fun p => .int (sumTo (hit ls g p) i)) (longest ls))))
      ⟨none, none, rfl, x1.trans x2, upd_same⟩ (fun i σ H' _ ⟨_, _, _, x, _⟩ => x.sT O.G) (fun i xv T' σ H' hi ⟨z4, z5, hσ, hx, hF⟩ hT' => ?_) (fun σ H' ⟨z4, z5, hσ, hx, hF⟩ => ?_)⟩
    · subst hσ
      rw [List.getElem?_map] at hi
      cases eg : g[i]? with
      | none => rw [eg] at hi; cases hi
      | some o =>
        rw [eg] at hi
        obtain rfl : keyV o = xv := Option.some.inj hi
        have hil := (List.getElem?_eq_some_iff.mp eg).1
        have y := hx.new (o := .tup [.int (i : Nat), keyV o]) hT'
        have hF2 : upd H' T' (.tup [.int (i : Nat), keyV o]) fo = some (.lst (fl (fun p => .int (sumTo (hit ls g p) i)) (longest ls))) := by rw [upd_ne (ne_of_none hF hT')]; exact hF
        have hTt : SqT K (upd H' T' (.tup [.int (i : Nat), keyV o])) T' [.int (i : Nat), keyV o] := SqT.of upd_same
        generalize upd H' T' (.tup [.int (i : Nat), keyV o]) = H2 at y hF2 hTt ⊢
        refine ⟨_, _, rfl, hTt, rfl, _, _, rfl, _, _, rfl, rfl, ?_⟩
        have gi : got g i = o := got_of eg
        cases o with
        | none =>
          refine ⟨_, rfl, rfl, _, rfl, iteF ?_⟩
          refine ⟨_, _, rfl, y, ?_⟩
          rw [hF2]
          congr 2
          refine fl_congr fun p _ => ?_
          show V.int _ = V.int (sumTo (hit ls g p) i + hit ls g p i)
          have : hit ls g p i = 0 := by unfold hit; rw [gi]
          rw [this, Int.add_zero]
        | some t =>
          obtain ⟨l, el, htm⟩ := O.giv.listed i t eg
          obtain ⟨ti, eti⟩ : ∃ ti, ts[i]? = some ti := ⟨_, List.getElem?_eq_getElem (by omega)⟩
          obtain ⟨l', el', htl⟩ := paired_get O.hls eti
          rw [el] at el'
          cases el'
          have hp : l.idxOf t < longest ls := Nat.lt_of_lt_of_le (List.idxOf_lt_length_iff.mpr htm) (le_longest (List.mem_of_getElem? el))
          have hplace : place ls i t = l.idxOf t := by unfold place; rw [List.getD_eq_getElem?_getD, el]; rfl
          obtain ⟨j1, j2, j3⟩ := ix_nats htm
          refine ⟨_, rfl, rfl, _, rfl, iteT ?_⟩
          refine ⟨_, rfl, _, rfl, _, rfl, a, _, _, .ref ti, rfl, rfl, y.sL O.L, atI_nat (by rw [List.getElem?_map, eti]; rfl), ti, _, rfl, .inr (y.sT htl), fun lc hlc => ?_⟩
          have y2 := y.new (o := .lst (l.map iv)) hlc
          have hF3 : upd H2 lc (.lst (l.map iv)) fo = some (.lst (fl (fun p => .int (sumTo (hit ls g p) i)) (longest ls))) := by rw [upd_ne (ne_of_none hF2 hlc)]; exact hF2
          refine ⟨.inl ⟨rfl, _, SqL.of upd_same⟩, _, rfl, lc, _, iv t, l.idxOf t, _, rfl, rfl, SqL.of upd_same, rfl, flat_nats _, j1, j2, j3, ?_⟩
          refine ⟨fo, _, l.idxOf t, _, rfl, rfl, SqL.of hF3, fl_get hp, _, _, rfl, rfl, fo, _, _, _, rfl, rfl, hF3, fl_ix hp, ?_⟩
          rw [fl_up hp]
          refine ⟨_, _, rfl, y2.mut (.inl nfo) (by rw [hF3]; exact Soft.lst), ?_⟩
          rw [upd_same]
          congr 2
          refine fl_congr fun p _ => ?_
          show V.int _ = V.int (sumTo (hit ls g p) i + hit ls g p i)
          have hh : hit ls g p i = if l.idxOf t = p then 1 else 0 := by unfold hit; rw [gi]; show (if place ls i t = p then (1 : Int) else 0) = _; rw [hplace]
          rw [hh]
          unfold fset
          by_cases e : p = l.idxOf t
          · rw [if_pos e, if_pos e.symm, e]
          · rw [if_neg e, if_neg (Ne.symm e), Int.add_zero]
    · subst hσ
      rw [List.length_map, hgl] at hF
      refine ⟨_, rfl, fo, _, rfl, .inl ⟨SqL.of hF, fun t ht => ?_⟩⟩
      refine q _ t (hx.new ht) (hx.free ht (fun z => z)) ?_
      rw [upd_same]
      unfold prof fl
      rw [List.map_map]
      rfl
end
end G3

set_option Elab.async false
set_option linter.all false
set_option maxRecDepth 100000
set_option maxHeartbeats 2000000
namespace G3
open PySem PySem.Spec PyProof.Rows L2
/-! ### reversed_profile -/
def spRev (K : PySem.W.Frag) (T : TbA) : Sp := fun vs H Q _ => ∃ (a g0 : Addr) (ts : List Addr) (ls : List (List Nat)) (g : List (Option Nat)), vs = [.ref a, .ref g0] ∧ PrOk K H a g0 ts ls g ∧
  ∀ H' t, Xo T nM H H' → SqT K H' t (((prof ls g).sum :: ((prof ls g).reverse.map fun x => 0 - x)).map V.int) → Q (.ref t) H'
abbrev rvN : List Str := ["lists", "given", "counts", "count"]
theorem scRev : FnScope rvN ["lists", "given"] (defScope sRev) := ⟨rfl, rfl, rfl, by decide +kernel, rfl, by decide +kernel, by decide +kernel⟩
/-- [0 - x for x in reversed(t)], t a tuple of ints -/
abbrev tNegR (K : PySem.W.Frag) (te : TE) (j : Nat) : TE := tLc (RT.iRevA K te) (gName j) tYes (tOp (rI0 fun i j => .int (i - j)) (tC (.int 0)) (tVar j)) [j]
theorem rd_negR {K : PySem.W.Frag} {T : TbA} {σ : L2.St} {H H1 : Hp} {a : Addr} {ns : List Int} {te : TE} {j : Nat} {Q : VK} (hte : ∀ R : V → Hp → Prop, R (.ref a) H1 → te σ H R) (hT : SqT K H1 a (ns.map V.int)) (hz : ns.length ≤ 1000) (hσ : ∀ x : V, ((wipe σ [j]).set j (some x))[j]? = some (some x) ∧ wipe ((wipe σ [j]).set j (some x)) [j] = wipe σ [j])
    (q : ∀ H' D, Xo T nM H1 H' → H1 D = none → H' D = some (.lst ((ns.reverse.map fun x => 0 - x).map V.int)) → Q (.ref D) H') : tNegR K te j σ H Q := by
  refine hte _ ⟨a, _, rfl, .inr ⟨hT, fun D hD => ?_⟩⟩
  refine lc_it (It0 := RT.ItvT K a (ns.map V.int).length) (n := ns.length) (fun i H' => Xo T nM H1 H' ∧ H' D = some (.lst (((ns.reverse.take i).map fun x => 0 - x).map V.int))) ⟨Xo.new1 hD, upd_same⟩
    (fun H' _ => by show (ns.map V.int).length ≤ ns.length; rw [List.length_map]; exact Nat.le_refl _) (fun i H' hi ⟨x, _⟩ => ⟨by rw [List.length_map]; exact hi, _, _, x.sT hT, List.getElem?_eq_getElem (by rw [List.length_map]; omega)⟩) (fun i x H' H2 hi ⟨y, hF⟩ yl => ?_) (fun H' ⟨y, hF⟩ => ?_)
  · obtain ⟨rfl, hget⟩ := yl
    have ex := hget _ (y.sT hT)
    rw [List.getElem?_map, List.length_map] at ex
    have er : ns.reverse[i]? = ns[ns.length - 1 - i]? := List.getElem?_reverse hi
    cases en : ns[ns.length - 1 - i]? with
    | none => rw [en] at ex; cases ex
    | some n =>
      rw [en] at ex er
      obtain rfl : V.int n = x := Option.some.inj ex
      obtain ⟨s1, s3⟩ := hσ (.int n)
      refine ⟨s3, ?_⟩
      refine ⟨_, s1, _, _, rfl, rfl, _, hF, by rw [List.length_map, List.length_map, List.length_take, sizeLine_eq]; omega, y.mut (.inl hD) (by rw [hF]; exact Soft.lst), ?_⟩
      rw [upd_same, List.take_add_one, er, List.map_append, List.map_append]
      rfl
  · rw [List.take_of_length_le (by rw [List.length_reverse]; exact Nat.le_refl _)] at hF
    exact q H' D y hD hF
section
variable {P : Program} {w : World} {K : PySem.W.Frag} {mg : Str → Option Value} {base : Heap} {T : TbA}
theorem ok_rev {f fp : Addr} {fd fdp : FuncData} (F : Fun K "reversed_profile" "reversed_profile" sRev f fd) (B : Blt mg) (FP : Fun K "profile" "profile" sProfile fp fdp) (bP : Binds K fdp ["lists", "given"] []) (gP : mg "profile" = some (.ref fp)) : FnOk P w K mg base CX0 2 f fd ["lists", "given"] (spRev K T) := by
  have GP : FnOk P w K mg base CX0 1 fp fdp ["lists", "given"] (spProfile K T) := ok_profile FP B
  refine F.ok scRev (fun vs H Q E h => ?_) (fun cdv A outer s H vs Q E hr h => ?_)
  · obtain ⟨a, g0, ts, ls, g, rfl, _⟩ := h
    rfl
  · obtain ⟨a, g0, ts, ls, g, rfl, O, q⟩ := h
    refine ⟨_, pss_cons (ps_set (i := 2) scRev.nd rfl (Or.inl rfl) (pe_call GP hr rfl gP FP.kp bP .nil pass0 (pa_cons (pv 0) (pa_cons (pv 1) pa_nil))))
      (pss_one (ps_ret (pe_op op_catT (pe_tup (pa_cons (pe_callB (cr_sumT hr) (by rfl) B.sum PyProof.Rows.boot_sum (pa_cons (pv 2) pa_nil)) pa_nil)) (pe_callTy call_tuple_of (by rfl) B.tuple (by decide +kernel) (pa_cons (pe_lc (own := [("count", 3)]) (g := gName 3) (tt := tYes) rfl scRev.nd
        (RT.pi_revA (by rfl) B.reversed (pv 2)) (blkOk_by (N := rvN) (sc := defScope sRev) (by decide +kernel)) (fun _ _ _ _ _ => pg_name (i := 3) scRev.nd rfl (Or.inl rfl)) (fun _ _ _ _ _ => pts_nil) (fun _ _ _ _ _ => pe_op op_sub pe_int (pv 3))) pa_nil))))), ?_⟩
    have hl : (prof ls g).length ≤ 50 := by rw [prof_len]; exact longest_le O.long
    refine ⟨_, rfl, _, rfl, a, g0, ts, ls, g, rfl, O, fun H1 t x1 ht0 ht => ?_⟩
    refine ⟨_, rfl, t, prof ls g, rfl, SqT.of ht, by show 1 ≤ sizeLine; decide, fun u hu => ?_⟩
    have x2 : Xo T nM H1 (upd H1 u (.tup [.int (prof ls g).sum])) := .new1 hu
    unfold tCB tCons
    refine rd_negR (T := T) (K := K) (te := tVar 2) (σ := [some (.ref a), some (.ref g0), some (.ref t), none]) (j := 3) (a := t) (ns := prof ls g) (fun R h => ⟨_, rfl, h⟩) (x2.sT (SqT.of ht)) (by omega) (fun x => ⟨rfl, rfl⟩) fun H3 D x3 _ hD => ?_
    refine ⟨D, _, rfl, .inl ⟨SqL.of hD, fun v hv => ?_⟩⟩
    have x4 := x3.new (o := .tup (((prof ls g).reverse.map fun x => 0 - x).map V.int)) hv
    refine ⟨u, v, [.int (prof ls g).sum], _, rfl, rfl, x4.sT (SqT.of upd_same), SqT.of upd_same, (fun z => nomatch z), ?_, fun e => ?_, fun _ r hr' => ?_⟩
    · rw [List.length_map, List.length_map, List.length_reverse, List.length_singleton, sizeLine_eq]
      omega
    · have h4 := x4.sT (SqT.of (K := K) (upd_same (H := H1) (a := u) (o := .tup [.int (prof ls g).sum])))
      refine q _ u ((x1.trans x2).trans x4) ?_
      rw [List.map_cons]
      rw [e] at h4 ⊢
      exact h4
    · exact q _ r (((x1.trans x2).trans x4).new hr') (SqT.of upd_same)
end
end G3

set_option Elab.async false
set_option linter.all false
set_option maxRecDepth 100000
set_option maxHeartbeats 2000000
namespace G3
open PySem PySem.Spec PyProof.Rows L2
/-! ### how_many -/
def spMany (K : PySem.W.Frag) (T : TbA) : Sp := fun vs H Q _ => ∃ (g0 : Addr) (g : List (Option Nat)), vs = [.ref g0] ∧ SqT K H g0 (g.map keyV) ∧ g.length ≤ 1000 ∧
  ∀ H', Xo T nM H H' → Q (.int ((g.filter (·.isSome)).length : Nat)) H'
abbrev myN : List Str := ["given", "thing"]
theorem scMany : FnScope myN ["given"] (defScope sMany) := ⟨rfl, rfl, rfl, by decide +kernel, rfl, by decide +kernel, by decide +kernel⟩
section
variable {P : Program} {w : World} {K : PySem.W.Frag} {mg : Str → Option Value} {base : Heap} {T : TbA}
theorem ok_many {f : Addr} {fd : FuncData} (F : Fun K "how_many" "how_many" sMany f fd) (B : Blt mg) : FnOk P w K mg base CX0 1 f fd ["given"] (spMany K T) := by
  refine F.ok scMany (fun vs H Q E h => ?_) (fun cdv A outer s H vs Q E hr h => ?_)
  · obtain ⟨g0, g, rfl, _⟩ := h
    rfl
  · obtain ⟨g0, g, rfl, hG, hz, q⟩ := h
    refine ⟨_, pss_one (ps_ret (pe_callB call_len_seq (by rfl) B.len PySem.boot_len (pa_cons (pe_lc (own := [("thing", 1)]) (g := gName 1) rfl scMany.nd (pi_tup (pv 0)) (blkOk_by (N := myN) (sc := defScope sMany) (by decide +kernel))
        (fun _ _ _ _ _ => pg_name (i := 1) scMany.nd rfl (Or.inl rfl)) (fun _ _ _ _ _ => pts_one (pt_cmpR op_notN (pv 1) pe_non (nomark _))) (fun _ _ _ _ _ => pv 1)) pa_nil))), ?_⟩
    refine ⟨_, rfl, g0, rfl, ⟨_, hG⟩, fun D hD => lc_tup (K := K) (a := g0) (xs := g.map keyV) (fun i H' => Xo T nM H H' ∧ H' D = some (.lst (((g.take i).filter (·.isSome)).map keyV)))
      ⟨.new1 hD, upd_same⟩ (fun i H' _ ⟨x, _⟩ => x.sT hG) (fun i x H' hi ⟨hx, hDt⟩ => ?_) (fun H' ⟨hx, hDt⟩ => ?_)⟩
    · rw [List.getElem?_map] at hi
      cases eg : g[i]? with
      | none => rw [eg] at hi; cases hi
      | some o =>
        rw [eg] at hi
        obtain rfl : keyV o = x := Option.some.inj hi
        have hil := (List.getElem?_eq_some_iff.mp eg).1
        refine ⟨rfl, ?_⟩
        rw [List.take_add_one, eg]
        have hlen : ((g.take i).filter (·.isSome)).length ≤ i := Nat.le_trans (List.length_filter_le ..) (by rw [List.length_take]; omega)
        cases o with
        | none =>
          refine ⟨_, rfl, rfl, _, rfl, iteF ⟨hx, ?_⟩⟩
          rw [hDt, List.filter_append]
          simp
        | some t =>
          refine ⟨_, rfl, rfl, _, rfl, iteT ⟨_, rfl, _, hDt, by rw [List.length_map, sizeLine_eq]; omega, hx.mut (.inl hD) (by rw [hDt]; exact Soft.lst), ?_⟩⟩
          rw [upd_same, List.filter_append, List.map_append]
          rfl
    · rw [List.length_map, List.take_of_length_le (Nat.le_refl _)] at hDt
      refine ⟨D, _, rfl, .inl (SqL.of hDt), ?_⟩
      rw [List.length_map]
      exact q _ hx
end
/-! ### sum_of_places -/
def pz (g : List (Option Nat)) (i : Nat) : Bool := (got g i).isSome
def pv' (ls : List (List Nat)) (g : List (Option Nat)) (i : Nat) : Int := match got g i with
  | none => 0
  | some t => (place ls i t : Nat)
theorem elt_places {X : Cx} {pa : Addr} {scope : Scope} {σ : L2.St} {H1 : Hp} {a g0 : Addr} {ts : List Addr} {ls : List (List Nat)} {g : List (Option Nat)} {j kk : Nat} {p0 p1 p2 p3 p4 p5 p6 p7 p8 p9 p10 : Pos} (hk : scope.kind = .function) (hl : scope.names.lookup ("lists" : Str) = some .free) (hx : scope.names.lookup ("one" : Str) = some .local) (hy : scope.names.lookup ("thing" : Str) = some .local)
    (hb : scope.names.lookup ("list" : Str) = some .globalImplicit) (hm : X.mg "list" = none) (hN : X.N[j]? = some "lists") (hv : σ[j]? = some (some (.ref a))) (hc : X.env.scope.names.lookup ("lists" : Str) = some .cell) (hline : (p6.endLine == p8.line) = true) (O : PrOk X.K H1 a g0 ts ls g) :
    EltS X pa scope "one" "thing" (.Compare (.Name "thing" p0) [.IsNot] [.Constant .none kk p1] p2) (.Call (.Attribute (.Call (.Name "list" p3) [.Subscript (.Name "lists" p4) (.Name "one" p5) p9] [] p7) "index" p6) [.Name "thing" p10] [] p8) σ H1 (g.map keyV) (pz g) (pv' ls g) := by
  intro pins s1 cenv s2 A' E' i xv v t m2 G hA hi rx hns ha hb'
  rw [List.getElem?_map] at hi
  cases eg : g[i]? with
  | none => rw [eg] at hi; cases hi
  | some o =>
    rw [eg] at hi
    obtain rfl : keyV o = xv := Option.some.inj hi
    have gi : got g i = o := got_of eg
    refine ⟨?_, fun hz => ?_⟩
    · refine wpAny_isTrue_Compare1 (G.own hk hy hns hb' (wpAny_Constant_none (isNot_none (wpAny_truthy_bool ?_))) (by decide)) (by with_unfolding_all rfl)
      refine ⟨?_, _, _, rfl, fun _ _ e => e⟩
      unfold pz
      rw [gi]
      cases o with
      | none =>
        obtain rfl : v = Value.none := rx
        rfl
      | some k =>
        obtain ⟨u, rfl⟩ := rx
        rfl
    · unfold pz at hz
      rw [gi] at hz
      cases o with
      | none => cases hz
      | some k =>
        obtain ⟨u, rfl⟩ := rx
        obtain ⟨l, el, htm⟩ := O.giv.listed i k eg
        have hil := (List.getElem?_eq_some_iff.mp el).1
        have hlen := Paired.length O.hls
        obtain ⟨ti, eti⟩ : ∃ ti, ts[i]? = some ti := ⟨_, List.getElem?_eq_getElem (by omega)⟩
        obtain ⟨l', el', htl⟩ := paired_get O.hls eti
        rw [el] at el'
        cases el'
        have hpl : pv' ls g i = (l.idxOf k : Nat) := by
          unfold pv'
          rw [gi]
          show ((place ls i k : Nat) : Int) = _
          congr 1
          unfold place
          rw [List.getD_eq_getElem?_getD, el]
          rfl
        obtain ⟨j1, j2, j3⟩ := ix_nats htm
        have hl50 := O.len
        refine wpAny_Call_method_late (by rfl) (by rfl) hline rfl ?_
        refine wpAny_Call_Name_kw (G.bltn hk hb hm boot_list ?_)
        refine PyProof.Rows.callWith_type1 ?_ (by rfl) (by rfl)
        refine Calls.spliced_cons ?_
        refine Subscript_ (G.free hk hl hN hv hc (fun u0 r0 => ?_))
        obtain rfl : u0 = Value.ref a := r0
        refine G.own hk hx hns ha ?_ (by decide)
        obtain ⟨fs, rf, hf, _⟩ := G.list O.L
        obtain ⟨u1, hu, ru⟩ := rf.get (i := i) (x := .ref ti) (by rw [List.getElem?_map, eti]; rfl)
        obtain rfl : u1 = Value.ref ti := ru
        refine item_listR hf (by omega) (by omega) (by simpa using hu) ?_
        refine Calls.spliced_nil ?_
        obtain ⟨its, rv, ht0, hz2⟩ := G.tuple htl
        obtain ⟨⟨cls, dd, data, sl⟩, hto, hcl, n0, hd⟩ := ht0
        simp only at hcl hd
        subst hcl hd
        refine call_list_seq ti (.inr rfl) hto rfl rfl (fun h' c' hkp hnew => ?_) (by rw [List.size_toArray, ← rv.length]; exact hz2)
        refine ⟨"list", "list.index", PySem.F.plainAttrs_list, PySem.F.slot_list_index, PySem.F.type_list_index, ⟨_, hnew, rfl⟩, fun b e => ?_, ?_⟩
        · cases e
          exact ⟨_, hnew, rfl⟩
        · refine Calls.callWith_builtin (by rfl) (Calls.evalArgs_plain ?_)
          refine Calls.spliced_cons ?_
          have G2 := G.up (s3 := { s2 with heap := h' }) fun b o e => hkp b o e
          refine G2.own hk hy (hns.keeps hkp) hb' ?_ (by decide)
          refine Calls.spliced_nil ?_
          obtain ⟨z, hz1, rz⟩ := rv.get j1
          obtain ⟨hjl, hje⟩ := List.getElem?_eq_some_iff.mp hz1
          have hvl := rv.length
          have hsl := sizeLine_eq
          have fys : (l.map iv).all flatV = true := flat_nats _
          have rk : RelV (iv k) (Value.int (k : Nat) u) := ⟨_, rfl⟩
          refine call_meets PySem.F.slot_list_index ⟨_, hnew, rfl⟩ PySem.F.entry_list_index (PySem.F.args_list_index_2 _ _)
            (SeqAt.list_indexAt _ its.toArray c' none _ (Value.int (k : Nat) u) (eqU (iv k)) (l.idxOf k) (by simpa using hjl) (by omega) ?_ ?_) ⟨hnew, fun u' hu' => mem_eqAt rk rfl rv fys u' (by simpa using hu'), ?_⟩
          · have e1 : its.toArray[l.idxOf k]'(by simpa using hjl) = z := by simpa using hje
            rw [e1, eqU_of rz rfl]
            exact j2
          · intro m hm hmj
            have hml : m < its.length := by simpa using hm
            have hmy : m < (l.map iv).length := by omega
            have hy' : (l.map iv)[m]? = some (l.map iv)[m] := List.getElem?_eq_getElem hmy
            obtain ⟨u2, hu2, ru2⟩ := rv.get hy'
            obtain ⟨_, hme⟩ := List.getElem?_eq_some_iff.mp hu2
            have e1 : its.toArray[m] = u2 := by simpa using hme
            rw [e1, eqU_of ru2 (flat_at fys hy')]
            exact j3 m _ hmj hy'
          · rw [hpl]
            exact ⟨⟨_, rfl⟩, _, _, rfl, fun b o e => hkp b o e⟩
theorem sum_pz (ls : List (List Nat)) (g : List (Option Nat)) : ∀ n, (((List.range n).filter (pz g)).map (pv' ls g)).sum = sumTo (val ls (fun p => (p : Int)) g) n
  | 0 => rfl
  | n + 1 => by
    have ih := sum_pz ls g n
    rw [List.range_succ, List.filter_append, List.map_append, List.sum_append, ih]
    show _ = sumTo (val ls (fun p => (p : Int)) g) n + val ls (fun p => (p : Int)) g n
    congr 1
    unfold val
    cases e : got g n with
    | none =>
      have : pz g n = false := by unfold pz; rw [e]; rfl
      simp [this]
    | some t =>
      have h1 : pz g n = true := by unfold pz; rw [e]; rfl
      have h2 : pv' ls g n = (place ls n t : Nat) := by unfold pv'; rw [e]
      simp [h1, h2]
theorem sum_places {ls : List (List Nat)} {g : List (Option Nat)} (h : Giv ls g) : (((List.range g.length).filter (pz g)).map (pv' ls g)).sum = placeSum ls g := by
  rw [sum_pz, placeSum_wsum h, h.len]
  rfl
theorem many_some {ls : List (List Nat)} {g : List (Option Nat)} (h : Giv ls g) : (((g.filter (·.isSome)).length : Nat) : Int) = many ls g := by
  have key : ∀ n, n ≤ g.length → (((g.take n).filter (·.isSome)).length : Int) = sumTo (val ls (fun _ => 1) g) n := by
    intro n
    induction n with
    | zero => intro _; rfl
    | succ n ih =>
      intro hn
      have hg : g[n]? = some g[n] := List.getElem?_eq_getElem (by omega)
      have hgot : got g n = g[n] := got_of hg
      show _ = sumTo (val ls (fun _ => 1) g) n + val ls (fun _ => 1) g n
      rw [← ih (by omega), List.take_add_one, hg, List.filter_append, List.length_append]
      unfold val
      rw [hgot]
      cases g[n] with
      | none => simp
      | some t => simp
  have := key g.length (Nat.le_refl _)
  rw [List.take_length] at this
  rw [this, h.len]
  rfl
def spPlaces (K : PySem.W.Frag) (T : TbA) : Sp := fun vs H Q _ => ∃ (a g0 : Addr) (ts : List Addr) (ls : List (List Nat)) (g : List (Option Nat)), vs = [.ref a, .ref g0] ∧ PrOk K H a g0 ts ls g ∧ Tb T H ∧
  ∀ H', Xo T nM H H' → Q (.int (placeSum ls g)) H'
abbrev plN : List Str := ["lists", "given"]
theorem scPlaces : FnScope plN ["lists", "given"] (defScope sPlaces) := ⟨rfl, rfl, rfl, by decide +kernel, rfl, by decide +kernel, by decide +kernel⟩
section
variable {P : Program} {w : World} {K : PySem.W.Frag} {mg : Str → Option Value} {base : Heap} {T : TbA}
theorem ok_places {f c : Addr} {fd : FuncData} (F : Fun K "sum_of_places" "sum_of_places" sPlaces f fd) (hc : fd.code = .ref c) (B : Blt mg) (TB : GxR.TabB base mg c T.gs) (hne : T.gs ≠ T.lp) : FnOk P w K mg base CX0 1 f fd ["lists", "given"] (spPlaces K T) := by
  refine Fun.okC F hc scPlaces (fun vs H Q E h => ?_) (fun A outer s H vs Q E hr h => ?_)
  · obtain ⟨a, g0, ts, ls, g, rfl, _⟩ := h
    rfl
  · obtain ⟨a, g0, ts, ls, g, rfl, O, hT, q⟩ := h
    refine ⟨_, pss_one (ps_ret (pe_sumE hr (by rfl) B.sum (by rfl) B.enumerate TB rfl ⟨rfl, rfl, by decide +kernel, rfl, rfl, genFree (by decide +kernel)⟩ rfl (by decide) (pa_cons (pv 1) pa_nil))), ?_⟩
    refine ⟨_, rfl, g0, _, pz g, pv' ls g, rfl, O.G, hT.gs, elt_places (j := 0) rfl rfl rfl rfl rfl B.list rfl rfl rfl rfl O, fun H2 hg => ?_⟩
    rw [List.length_map, sum_places O.giv]
    exact q H2 (.gen hg hT.gs hne)
end
end G3

set_option Elab.async false
set_option linter.all false
set_option maxRecDepth 100000
set_option maxHeartbeats 2000000
namespace G3
open PySem PySem.Spec PyProof.Rows L2
/-! ### the law's own helpers: flat, dice, roll -/
def spFlat (K : PySem.W.Frag) (T : TbA) : Sp := fun vs H Q _ => ∃ (a : Addr) (bs : List Addr) (rss : List (List V)), vs = [.ref a] ∧ SqL K H a (bs.map V.ref) ∧ Paired (fun b xs => H b = some (.lst xs)) bs rss ∧ rss.flatten.length ≤ 100000 ∧
  ∀ H' l, Xo T nM H H' → H l = none → H' l = some (.lst rss.flatten) → Q (.ref l) H'
abbrev flatN : List Str := ["_law_rows", "_law_found", "_law_row"]
theorem scFlat : FnScope flatN ["_law_rows"] (defScope sFlat) := ⟨rfl, rfl, rfl, by decide +kernel, rfl, by decide +kernel, by decide +kernel⟩
abbrev dc (x y z : Int) : HO := .lst [.int x, .int y, .int z]
def spDice (K : PySem.W.Frag) (T : TbA) : Sp := fun vs H Q _ => ∃ c : Int, vs = [.int c] ∧
  ∀ H' d x y z, Xo T nM H H' → H d = none → H' d = some (dc x y z) → Q (.ref d) H'
theorem scDice : FnScope ["_law_cell"] ["_law_cell"] (defScope sDice) := ⟨rfl, rfl, rfl, by decide +kernel, rfl, by decide +kernel, by decide +kernel⟩
def spRoll (K : PySem.W.Frag) (T : TbA) : Sp := fun vs H Q _ => ∃ (d : Addr) (m : Nat) (x y z : Int), vs = [.ref d, iv m] ∧ 0 < m ∧ m ≤ 100000 ∧ H d = some (dc x y z) ∧
  ∀ H' x' y' z' r, Xo T (fun b => b = d) H H' → H' d = some (dc x' y' z') → r < m → Q (iv r) H'
abbrev rollN : List Str := ["_law_dice_here", "_law_many", "_law_found"]
theorem scRoll : FnScope rollN ["_law_dice_here", "_law_many"] (defScope sRoll) := ⟨rfl, rfl, rfl, by decide +kernel, rfl, by decide +kernel, by decide +kernel⟩
theorem flat_take {rss : List (List V)} {i : Nat} {xs : List V} (h : rss[i]? = some xs) : (rss.take (i + 1)).flatten = (rss.take i).flatten ++ xs := by
  rw [List.take_add_one, h, List.flatten_append]
  simp
theorem flat_take_len (rss : List (List V)) (i : Nat) : (rss.take i).flatten.length ≤ rss.flatten.length := by
  have : rss.flatten = (rss.take i).flatten ++ (rss.drop i).flatten := by rw [← List.flatten_append, List.take_append_drop]
  rw [this, List.length_append]
  omega
theorem mod_nat {a : Int} {m : Nat} (h : 0 < m) : ∃ r : Nat, a % (m : Int) = (r : Nat) ∧ r < m := by
  have h1 := Int.emod_nonneg a (show (m : Int) ≠ 0 by omega)
  have h2 := Int.emod_lt_of_pos a (show (0 : Int) < m by omega)
  exact ⟨(a % (m : Int)).toNat, by omega, by omega⟩
section
variable {P : Program} {w : World} {K : PySem.W.Frag} {mg : Str → Option Value} {base : Heap} {T : TbA}
abbrev tRollC (K : PySem.W.Frag) : TT := tOr (tTest (tOp rEq (tOp (rIxL K) (tVar 0) (tC (.int 2))) (tC (.int 2)))) (tAnd (tTest (tOp rEq (tOp (rIxL K) (tVar 0) (tC (.int 2))) (tC (.int 1)))) (tTest (tOp (rI0 fun i j => .bl (decide (j < i))) (tOp (rIxL K) (tVar 0) (tC (.int 0))) (tC (.int 0)))))
theorem rd_rollC {σ : L2.St} {H : Hp} {d : Addr} {x y z : Int} {Q' : Bool → Hp → Prop} (h0 : σ[0]? = some (some (.ref d))) (hL : SqL K H d [.int x, .int y, .int z]) (q : ∀ b, Q' b H) : tRollC K σ H Q' := by
  refine ⟨_, h0, d, _, _, _, rfl, rfl, hL, rfl, rfl, _, rfl, ?_⟩
  dsimp only
  split
  · exact q _
  · refine ⟨_, h0, d, _, _, _, rfl, rfl, hL, rfl, rfl, _, rfl, ?_⟩
    dsimp only
    split
    · exact ⟨_, h0, d, _, _, _, rfl, rfl, hL, rfl, _, _, rfl, rfl, _, rfl, q _⟩
    · exact q _
theorem ok_flat {f : Addr} {fd : FuncData} (F : Fun K "_law_flat" "_law_flat" sFlat f fd) (B : Blt mg) : FnOk P w K mg base CX0 1 f fd ["_law_rows"] (spFlat K T) := by
  refine F.ok scFlat (fun vs H Q E h => ?_) (fun cdv A outer s H vs Q E hr h => ?_)
  · obtain ⟨a, bs, rss, rfl, _⟩ := h
    rfl
  · obtain ⟨a, bs, rss, rfl, hL, hp, hz, q⟩ := h
    refine ⟨_, pss_cons (ps_set (i := 1) scFlat.nd rfl (Or.inl rfl) (pe_lst pa_nil))
      (pss_cons (ps_for PassesOwn.never rfl (pi_list (pv 0)) (pg_name (i := 2) scFlat.nd rfl (Or.inl rfl))
        (pss_one (ps_set (i := 1) scFlat.nd rfl (Or.inl rfl) (pe_op op_cat (pv 1) (pv 2)))))
      (pss_one (ps_ret (pv 1)))), ?_⟩
    refine ⟨Nat.zero_le _, fun l0 hl0 => ?_⟩
    refine ⟨_, rfl, a, rfl, ⟨_, (Xo.new1 (T := T) (M := nM) hl0).sL hL⟩, for_list (K := K) (a := a) (xs := bs.map V.ref) (fun i σ H' => ∃ (z : Option V) (l : Addr), σ = [some (.ref a), some (.ref l), z] ∧ Xo T nM H H' ∧ H l = none ∧ H' l = some (.lst (rss.take i).flatten))
      ⟨none, l0, rfl, .new1 hl0, hl0, upd_same⟩ (fun i σ H' _ ⟨_, _, _, x, _⟩ => x.sL hL) (fun i x σ H' hi ⟨z, l, hσ, hx, hn, hF⟩ => ?_) (fun σ H' ⟨z, l, hσ, hx, hn, hF⟩ => ?_)⟩
    · subst hσ
      rw [List.getElem?_map] at hi
      cases et : bs[i]? with
      | none => rw [et] at hi; cases hi
      | some b =>
        rw [et] at hi
        obtain rfl : V.ref b = x := Option.some.inj hi
        obtain ⟨xs, ex, hb⟩ := paired_get hp et
        have h1 := flat_take_len rss (i + 1)
        rw [flat_take ex] at h1
        refine ⟨_, rfl, _, rfl, l, b, _, xs, rfl, rfl, hF, hx.lst hb (fun z => z), ?_, fun p hp0 => ?_⟩
        · rw [List.length_append] at h1
          rw [sizeLine_eq]
          omega
        · refine ⟨_, p, rfl, hx.new hp0, hx.free hp0 (fun z => z), ?_⟩
          rw [upd_same, flat_take ex]
    · subst hσ
      have e : (rss.take bs.length).flatten = rss.flatten := by rw [List.take_of_length_le (by rw [← Paired.length hp]; exact Nat.le_refl _)]
      rw [List.length_map, e] at hF
      exact ⟨_, rfl, q _ l hx hn hF⟩
theorem ok_dice {f : Addr} {fd : FuncData} (F : Fun K "_law_dice" "_law_dice" sDice f fd) (B : Blt mg) : FnOk P w K mg base CX0 1 f fd ["_law_cell"] (spDice K T) := by
  refine F.ok scDice (fun vs H Q E h => ?_) (fun cdv A outer s H vs Q E hr h => ?_)
  · obtain ⟨c, rfl, _⟩ := h
    rfl
  · obtain ⟨c, rfl, q⟩ := h
    refine ⟨_, pss_cons (ps_if (pt_chain op_lt op_lt (pe_op op_sub pe_int pe_int) (pv 0) pe_int)
        (pss_one (ps_ret (pe_lst (pa_cons (pe_callB call_abs (by rfl) B.abs PyProof.Rows.boot_abs (pa_cons (pv 0) pa_nil)) (pa_cons pe_int (pa_cons pe_int pa_nil)))))) pss_nil)
      (pss_one (ps_ret (pe_lst (pa_cons (pv 0) (pa_cons (pe_op op_add pe_int (pe_op op_mod (pe_callTy call_int1 (by rfl) B.int (by decide +kernel) (pa_cons (pv 0) pa_nil)) pe_int)) (pa_cons (pe_callTy call_int1 (by rfl) B.int (by decide +kernel) (pa_cons (pe_cmpR op_ge (pv 0) (pe_op op_pow pe_int pe_int) (nomark _)) pa_nil)) pa_nil)))))), ?_⟩
    have len3 : (3 : Nat) ≤ sizeLine := by decide
    have p9 : (0 : Int) < 1009 := by decide
    have cp : CPow 10 18 := ⟨by decide, by decide, by decide⟩
    refine ⟨_, _, rfl, rfl, _, rfl, _, _, rfl, rfl, _, rfl, ?_⟩
    split
    · refine ⟨_, _, rfl, rfl, _, rfl, ?_⟩
      dsimp only
      split
      · exact ⟨_, rfl, _, rfl, len3, fun d hd => q _ d _ _ _ (.new1 hd) hd upd_same⟩
      · exact ⟨_, rfl, _, rfl, .inl ⟨_, rfl, _, _, rfl, rfl, p9, _, _, rfl, rfl, _, rfl, _, _, rfl, rfl, cp, _, _, rfl, rfl, .inr ⟨_, rfl, len3, fun d hd => q _ d _ _ _ (.new1 hd) hd upd_same⟩⟩⟩
    · refine ⟨_, rfl, ?_⟩
      refine iteF ?_
      exact ⟨_, rfl, _, rfl, .inl ⟨_, rfl, _, _, rfl, rfl, p9, _, _, rfl, rfl, _, rfl, _, _, rfl, rfl, cp, _, _, rfl, rfl, .inr ⟨_, rfl, len3, fun d hd => q _ d _ _ _ (.new1 hd) hd upd_same⟩⟩⟩
theorem ok_roll {f : Addr} {fd : FuncData} (F : Fun K "_law_roll" "_law_roll" sRoll f fd) (B : Blt mg) : FnOk P w K mg base CX0 1 f fd ["_law_dice_here", "_law_many"] (spRoll K T) := by
  refine F.ok scRoll (fun vs H Q E h => ?_) (fun cdv A outer s H vs Q E hr h => ?_)
  · obtain ⟨d, m, x, y, z, rfl, _⟩ := h
    rfl
  · obtain ⟨d, m, x, y, z, rfl, hm, hm2, hD, q⟩ := h
    refine ⟨_, pss_cons (ps_if (PW.pt (pw_or (pt_cmpR op_eq (pe_ix ix_list (pv 0) pe_int (fun _ _ => rfl)) pe_int (nomark _)) (pw_or1 (PW.pt (pw_and (pt_cmpR op_eq (pe_ix ix_list (pv 0) pe_int (fun _ _ => rfl)) pe_int (nomark _)) (pw_and1 (pt_cmpR op_gt (pe_ix ix_list (pv 0) pe_int (fun _ _ => rfl)) pe_int (nomark _))))))))
        (pss_cons (ps_set (i := 2) scRoll.nd rfl (Or.inl rfl) (pe_op op_mod (pe_callTy call_int1 (by rfl) B.int (by decide +kernel) (pa_cons (pe_ix ix_list (pv 0) pe_int (fun _ _ => rfl)) pa_nil)) (pv 1)))
        (pss_cons (ps_asg (pe_op op_fdiv (pe_ix ix_list (pv 0) pe_int (fun _ _ => rfl)) (pv 1)) (pg_sub (pv 0) pe_int set_list))
        (pss_one (ps_ret (pv 2))))) pss_nil)
      (pss_cons (ps_asg pe_int (pg_sub (pv 0) pe_int set_list))
      (pss_cons (ps_asg (pe_op op_mod (pe_callTy call_int1 (by rfl) B.int (by decide +kernel) (pa_cons (pe_op op_add (pe_op op_add (pe_op op_mul (pe_ix ix_list (pv 0) pe_int (fun _ _ => rfl)) pe_int) (pe_op op_mul (pe_ix ix_list (pv 0) pe_int (fun _ _ => rfl)) pe_int)) pe_int) pa_nil)) pe_int) (pg_sub (pv 0) pe_int set_list))
      (pss_cons (ps_asg (pe_op op_add (pe_ix ix_list (pv 0) pe_int (fun _ _ => rfl)) pe_int) (pg_sub (pv 0) pe_int set_list))
      (pss_one (ps_ret (pe_op op_mod (pe_callTy call_int1 (by rfl) B.int (by decide +kernel) (pa_cons (pe_op op_add (pe_op op_fdiv (pe_ix ix_list (pv 0) pe_int (fun _ _ => rfl)) pe_int) (pe_ix ix_list (pv 0) pe_int (fun _ _ => rfl))) pa_nil)) (pv 1))))))), ?_⟩
    have at0 : ∀ {a b c : Int}, atI [V.int a, V.int b, V.int c] 0 = some (V.int a) := fun {_ _ _} => rfl
    have at1 : ∀ {a b c : Int}, atI [V.int a, V.int b, V.int c] 1 = some (V.int b) := fun {_ _ _} => rfl
    have at2 : ∀ {a b c : Int}, atI [V.int a, V.int b, V.int c] 2 = some (V.int c) := fun {_ _ _} => rfl
    have ix0 : ∀ {a b c : Int}, ixN ([V.int a, V.int b, V.int c].length) 0 = some 0 := fun {_ _ _} => rfl
    have ix1 : ∀ {a b c : Int}, ixN ([V.int a, V.int b, V.int c].length) 1 = some 1 := fun {_ _ _} => rfl
    have ix2 : ∀ {a b c : Int}, ixN ([V.int a, V.int b, V.int c].length) 2 = some 2 := fun {_ _ _} => rfl
    have hL := SqL.of (K := K) hD
    have sd : ∀ {H' : Hp} {a b c : Int}, H' d = some (dc a b c) → Soft (H' d) := fun {H' a b c} h => by rw [h]; exact Soft.lst
    unfold tSeq tIfS
    refine rd_rollC (K := K) (d := d) rfl hL fun b => ?_
    dsimp only
    cases b with
    | true =>
      obtain ⟨r, er, hr⟩ := mod_nat (a := x) hm
      refine iteT ⟨_, rfl, d, _, _, _, rfl, rfl, hL, at0, .inl ⟨_, rfl, _, rfl, _, _, rfl, rfl, by show (0 : Int) < (m : Int); omega, ?_⟩⟩
      refine ⟨_, rfl, d, _, _, _, rfl, rfl, hL, at0, _, rfl, _, _, rfl, rfl, by constructor <;> omega, _, rfl, d, _, _, _, rfl, rfl, hD, ix0, _, rfl, ?_⟩
      show Q (.int (x % (m : Int))) _
      rw [er]
      exact q _ _ _ _ r (Xo.refl.mut (.inr rfl) (sd hD)) upd_same hr
    | false =>
      refine iteF ?_
      refine ⟨_, rfl, d, _, _, _, rfl, rfl, hD, ix2, ?_⟩
      have x1 : Xo T (fun b => b = d) H (upd H d (dc x y 0)) := Xo.refl.mut (.inr rfl) (sd hD)
      have h1 : upd H d (dc x y 0) d = some (dc x y 0) := upd_same
      dsimp only
      rw [show [V.int x, V.int y, V.int z].set 2 (V.int 0) = [V.int x, V.int y, V.int 0] from rfl]
      generalize upd H d (dc x y 0) = H1 at x1 h1 ⊢
      have hL1 := SqL.of (K := K) h1
      have c64 : ∀ n : Int, CMul n 48271 := fun n => .inr ⟨by decide, by decide⟩
      have c65 : ∀ n : Int, CMul n 69621 := fun n => .inr ⟨by decide, by decide⟩
      have p1 : (0 : Int) < 2147483647 := by decide
      refine ⟨_, rfl, d, _, _, _, rfl, rfl, hL1, at0, _, _, rfl, rfl, c64 _, _, rfl, d, _, _, _, rfl, rfl, hL1, at1, _, _, rfl, rfl, c65 _, _, _, rfl, rfl, _, _, rfl, rfl, .inl ⟨_, rfl, _, _, rfl, rfl, p1, ?_⟩⟩
      refine ⟨_, rfl, d, _, _, _, rfl, rfl, h1, ix0, ?_⟩
      dsimp only
      generalize hx0 : (x * 48271 + y * 69621 + 11) % 2147483647 = x0
      have x2 : Xo T (fun b => b = d) H (upd H1 d (dc x0 y 0)) := x1.mut (.inr rfl) (sd h1)
      have h2 : upd H1 d (dc x0 y 0) d = some (dc x0 y 0) := upd_same
      rw [show [V.int x, V.int y, V.int 0].set 0 (V.int x0) = [V.int x0, V.int y, V.int 0] from rfl]
      generalize upd H1 d (dc x0 y 0) = H2 at x2 h2 ⊢
      have hL2 := SqL.of (K := K) h2
      refine ⟨_, rfl, d, _, _, _, rfl, rfl, hL2, at1, _, _, rfl, rfl, _, rfl, d, _, _, _, rfl, rfl, h2, ix1, ?_⟩
      have x3 : Xo T (fun b => b = d) H (upd H2 d (dc x0 (y + 1) 0)) := x2.mut (.inr rfl) (sd h2)
      have h3 : upd H2 d (dc x0 (y + 1) 0) d = some (dc x0 (y + 1) 0) := upd_same
      dsimp only
      rw [show [V.int x0, V.int y, V.int 0].set 1 (V.int (y + 1)) = [V.int x0, V.int (y + 1), V.int 0] from rfl]
      generalize upd H2 d (dc x0 (y + 1) 0) = H3 at x3 h3 ⊢
      have hL3 := SqL.of (K := K) h3
      have p7 : CDiv x0 7 := ⟨by decide, by decide⟩
      obtain ⟨r, er, hr⟩ := mod_nat (a := x0 / 7 + x0) hm
      refine ⟨_, rfl, d, _, _, _, rfl, rfl, hL3, at0, _, _, rfl, rfl, p7, _, rfl, d, _, _, _, rfl, rfl, hL3, at0, _, _, rfl, rfl, .inl ⟨_, rfl, _, rfl, _, _, rfl, rfl, by show (0 : Int) < (m : Int); omega, ?_⟩⟩
      show Q (.int ((x0 / 7 + x0) % (m : Int))) _
      rw [er]
      exact q _ _ _ _ r x3 h3 hr
end
end G3

set_option Elab.async false
set_option linter.all false
set_option maxRecDepth 100000
set_option maxHeartbeats 2000000
namespace G3
open PySem PySem.Spec PyProof.Rows L2
/-! ### the law's own helpers: rounds, list -/
/-- a tuple of its own, without a dict -/
def FrT (H : Hp) (a : Addr) (xs : List V) : Prop := ∃ ob : Obj, ob.dict = none ∧ H a = some (.frz ob (.tup xs))
theorem FrT.sq {K : PySem.W.Frag} {H : Hp} {a : Addr} {xs : List V} (h : FrT H a xs) : SqT K H a xs := let ⟨ob, _, e⟩ := h; .inl (.inr ⟨ob, e⟩)
theorem FrT.xo {T : TbA} {M : Addr → Prop} {H H1 : Hp} {a : Addr} {xs : List V} (h : FrT H a xs) (x : Xo T M H H1) (m : ¬ M a) : FrT H1 a xs := let ⟨ob, e, h⟩ := h; ⟨ob, e, x.keep a _ h m fun ps z => by cases z⟩
section
variable {X : Cx}
/-- tuple(list): what is made is known wholly -/
theorem call_tupN : CallR X (.type "tuple") (fun xs H Q => ∃ p ys, xs = [.ref p] ∧ SqL X.K H p ys ∧ ∀ (l : Addr) (ob : Obj), ob.dict = none → H l = none → Q (.ref l) (upd H l (.frz ob (.tup ys)))) := by
  intro pins s σ H xs us Q I r h
  obtain ⟨p, ys, rfl, hq, q⟩ := h
  obtain ⟨u, rfl, rx⟩ := vals1 r
  cases rx
  obtain ⟨its, r', pl, hz⟩ := I.list hq
  have hlen := r'.length
  refine call_tuple_list pl.isList (fun h' kp => ?_) (by simp only [List.size_toArray] <;> omega)
  have I1 : Inv X pins σ H { s with heap := h' } := I.kept (t' := s.toks) kp
  have hnew : (h'.push { cls := .type "tuple", data := .seq its.toArray }).get? h'.objs.size = some { cls := .type "tuple", data := .seq its.toArray } := Heap.get?_push_size _ rfl
  have I2 : Inv X pins σ (upd H h'.objs.size (.frz { cls := .type "tuple", data := .seq its.toArray } (.tup ys))) { s with heap := h'.push { cls := .type "tuple", data := .seq its.toArray } } :=
    I1.laid (t' := s.toks) (fun b o e => Heap.get?_push_of_some _ e) (Nat.le_refl _) (show ObjOk X.prog X.w _ _ _ (.frz _ (.tup ys)) from ⟨hnew, hz, its, r', IsTup.new _ _⟩)
  exact ⟨.ref h'.objs.size, _, I2, rfl, q _ _ rfl (I1.hok.fresh (Nat.le_refl _))⟩
end
def spRounds (K : PySem.W.Frag) (T : TbA) : Sp := fun vs H Q _ => ∃ (a : Addr) (ns : List Int), vs = [.ref a, .int 1] ∧ SqL K H a (ns.map V.int) ∧ Tb T H ∧
  ∀ H' l d x y z, Xo T nM H H' → H' l = some (.lst [.ref d]) → H' d = some (dc x y z) → Q (.ref l) H'
abbrev rdN : List Str := ["_law_script", "_law_most_now", "_law_cells", "_law_cell"]
theorem scRounds : FnScope rdN ["_law_script", "_law_most_now"] (defScope sRounds) := ⟨rfl, rfl, rfl, by decide +kernel, rfl, by decide +kernel, by decide +kernel⟩
/-- the lists: distinct things below m -/
def spList (K : PySem.W.Frag) (T : TbA) : Sp := fun vs H Q _ => ∃ (d : Addr) (m : Nat) (x y z : Int), vs = [.ref d, iv m] ∧ m ≤ 1000 ∧ H d = some (dc x y z) ∧
  ∀ H' x' y' z' t (l : List Nat), Xo T (fun b => b = d) H H' → H' d = some (dc x' y' z') → H t = none → FrT H' t (l.map iv) → l.Nodup → (∀ t ∈ l, t < m) → l.length ≤ m → Q (.ref t) H'
abbrev liN : List Str := ["_law_dice_here", "_law_many", "_law_left", "_law_found", "_law_turn", "_law_one"]
theorem scList : FnScope liN ["_law_dice_here", "_law_many"] (defScope sList) := ⟨rfl, rfl, rfl, by decide +kernel, rfl, by decide +kernel, by decide +kernel⟩
section
variable {P : Program} {w : World} {K : PySem.W.Frag} {mg : Str → Option Value} {base : Heap} {T : TbA}
abbrev tRds (K : PySem.W.Frag) (T : TbA) : TE := tLc (iList K (tVar 2)) (gName 3) tYes (tCall (spDice K T) [] E0 (tCons (tVar 3) tNil)) [3]
theorem rd_rounds {σ : L2.St} {H H1 : Hp} {a : Addr} {c : Int} {Q : VK} (x1 : Xo T nM H H1) (hL : SqL K H1 a [.int c]) (h0 : σ[2]? = some (some (.ref a))) (hσ : ∀ x : V, ((wipe σ [3]).set 3 (some x))[3]? = some (some x) ∧ wipe ((wipe σ [3]).set 3 (some x)) [3] = wipe σ [3])
    (q : ∀ H' l d x y z, Xo T nM H H' → H' l = some (.lst [.ref d]) → H' d = some (dc x y z) → Q (.ref l) H') : tRds K T σ H1 Q := by
  refine ⟨_, h0, a, rfl, ⟨_, hL⟩, fun D hD => lc_list (K := K) (a := a) (xs := [.int c]) (fun i H' => Xo T nM H1 H' ∧ (i = 0 ∧ H' D = some (.lst []) ∨ i = 1 ∧ ∃ d x y z, H' D = some (.lst [.ref d]) ∧ H' d = some (dc x y z)))
    ⟨Xo.new1 hD, .inl ⟨rfl, upd_same⟩⟩ (fun i H' _ ⟨x, _⟩ => x.sL hL) (fun i x H' hi ⟨hx, hF⟩ => ?_) (fun H' ⟨hx, hF⟩ => ?_)⟩
  · have i0 : i = 0 := by
      have := (List.getElem?_eq_some_iff.mp hi).1
      simpa using this
    subst i0
    obtain rfl : V.int c = x := Option.some.inj hi
    obtain ⟨s1, s3⟩ := hσ (.int c)
    refine ⟨s3, ?_⟩
    rcases hF with ⟨_, hF⟩ | ⟨z, _⟩
    · refine ⟨_, s1, c, rfl, fun H2 d x y z x2 hd0 hd => ?_⟩
      have hF2 := x2.lst hF (fun z => z)
      have hdD : d ≠ D := fun e => by
        rw [e, hF] at hd0
        cases hd0
      refine ⟨_, hF2, by rw [sizeLine_eq]; decide, (hx.trans x2).mut (.inl hD) (by rw [hF2]; exact Soft.lst), .inr ⟨rfl, d, x, y, z, upd_same, ?_⟩⟩
      rw [upd_ne hdD]
      exact hd
    · cases z
  · rcases hF with ⟨z, _⟩ | ⟨_, d, x, y, z, hF, hd⟩
    · cases z
    · exact q H' D d x y z (x1.trans hx) hF hd
theorem ok_rounds {f fd0 : Addr} {fd fdd : FuncData} (F : Fun K "_law_rounds" "_law_rounds" sRounds f fd) (B : Blt mg) (FD : Fun K "_law_dice" "_law_dice" sDice fd0 fdd) (bD : Binds K fdd ["_law_cell"] []) (gD : mg "_law_dice" = some (.ref fd0)) :
    FnOk P w K mg base CX0 2 f fd ["_law_script", "_law_most_now"] (spRounds K T) := by
  have GD : FnOk P w K mg base CX0 1 fd0 fdd ["_law_cell"] (spDice K T) := ok_dice FD B
  refine F.ok scRounds (fun vs H Q E h => ?_) (fun cdv A outer s H vs Q E hr h => ?_)
  · obtain ⟨a, ns, rfl, _⟩ := h
    rfl
  · obtain ⟨a, ns, rfl, hL, hT, q⟩ := h
    have hr1 : Room 1 _ := hr
    refine ⟨_, pss_cons (ps_set (i := 2) scRounds.nd rfl (Or.inl rfl) (pe_slice sl_list (pv 0) po_none (po_some (pv 1))))
      (pss_cons (ps_if (pt_cmpR (op_eqD hr.units) (pv 2) (pe_lst pa_nil) (nomark _)) (pss_one (ps_set (i := 2) scRounds.nd rfl (Or.inl rfl) (pe_lst (pa_cons pe_int pa_nil)))) pss_nil)
      (pss_one (ps_ret (pe_lc (own := [("_law_cell", 3)]) (g := gName 3) (tt := tYes) (te := tCall (spDice K T) [] E0 (tCons (tVar 3) tNil)) rfl scRounds.nd (pi_list (pv 2)) (blkOk_by (N := rdN) (sc := defScope sRounds) (by decide +kernel))
        (fun _ _ _ _ _ => pg_name (i := 3) scRounds.nd rfl (Or.inl rfl)) (fun _ _ _ _ _ => pts_nil) (fun _ _ _ _ _ => pe_call GD hr1 rfl gD FD.kp bD .nil pass0 (pa_cons (pv 3) pa_nil)))))), ?_⟩
    refine ⟨_, rfl, _, rfl, _, rfl, a, _, rfl, hL, fun p hp => ?_⟩
    have cutE : cutV (ns.map V.int) none (some 1) = (ns.take 1).map V.int := by
      have e1 : HT.sIx (ns.map V.int).length (ns.map V.int).length (some 1) = min 1 (ns.map V.int).length := HT.sIx_nat _ _ 1
      unfold cutV
      rw [HT.sIx_none, e1]
      cases ns with
      | nil => rfl
      | cons c t => simp
    rw [cutE]
    have x1 : Xo T nM H (upd H p (.lst ((ns.take 1).map V.int))) := .new1 hp
    have h1 : upd H p (.lst ((ns.take 1).map V.int)) p = some (.lst ((ns.take 1).map V.int)) := upd_same
    generalize upd H p (.lst ((ns.take 1).map V.int)) = H1 at x1 h1 ⊢
    refine ⟨_, rfl, Nat.zero_le _, fun e he => ?_⟩
    have x2 := x1.new (o := .lst []) he
    have h2 := SqL.of (K := K) ((Xo.new1 (T := T) (M := nM) (o := .lst []) he).lst h1 (fun z => z))
    have hs : SeqAt.shaped (.list ((ns.take 1).map PyData.int)) = true := by
      obtain ⟨l1, l2⟩ := (flats_ints (ns.take 1)).lay
      show (PyData.canLay0 (.list _) && decide (PyData.depth (.list _) ≤ 64)) = true
      rw [Bool.and_eq_true]
      exact ⟨by simp only [PyData.canLay0]; exact l1, decide_eq_true (by simp only [PyData.depth]; omega)⟩
    refine ⟨.list ((ns.take 1).map PyData.int), .list [], .lst h2 (flats_ints (ns.take 1)).dp, .lst (SqL.of upd_same) .nil, hs, nil_shaped, _, rfl, ?_⟩
    cases ns with
    | nil =>
      refine iteT ⟨by show 1 ≤ sizeLine; decide, fun u hu => ?_⟩
      exact rd_rounds (T := T) (K := K) (c := 0) (x2.new hu) (SqL.of upd_same) rfl (fun x => ⟨rfl, rfl⟩) q
    | cons c t =>
      refine iteF ?_
      exact rd_rounds (T := T) (K := K) (c := c) x2 h2 rfl (fun x => ⟨rfl, rfl⟩) q
theorem cons_erase_perm : ∀ {l : List Nat} {j : Nat} (h : j < l.length), (l[j] :: l.eraseIdx j).Perm l
  | a :: r, 0, _ => by simp
  | a :: r, j + 1, h => by
    have ih := cons_erase_perm (l := r) (j := j) (by simpa using h)
    have : ((a :: r)[j + 1] :: (a :: r).eraseIdx (j + 1)) = r[j]'(by simpa using h) :: a :: r.eraseIdx j := by simp
    rw [this]
    exact (List.Perm.swap _ _ _).trans (ih.cons a)
theorem map_eraseIdx {α β : Type} (f : α → β) : ∀ (l : List α) (j : Nat), (l.map f).eraseIdx j = (l.eraseIdx j).map f
  | [], j => by simp
  | a :: r, 0 => by simp
  | a :: r, j + 1 => by simp [map_eraseIdx f r j]
theorem ok_list {f fr : Addr} {fd fdr : FuncData} (F : Fun K "_law_list" "_law_list" sList f fd) (B : Blt mg) (FR : Fun K "_law_roll" "_law_roll" sRoll fr fdr) (bR : Binds K fdr ["_law_dice_here", "_law_many"] []) (gR : mg "_law_roll" = some (.ref fr)) :
    FnOk P w K mg base CX0 2 f fd ["_law_dice_here", "_law_many"] (spList K T) := by
  have GR : FnOk P w K mg base CX0 1 fr fdr ["_law_dice_here", "_law_many"] (spRoll K T) := ok_roll FR B
  refine F.ok scList (fun vs H Q E h => ?_) (fun cdv A outer s H vs Q E hr h => ?_)
  · obtain ⟨d, m, x, y, z, rfl, _⟩ := h
    rfl
  · obtain ⟨d, m, x, y, z, rfl, hm, hD, q⟩ := h
    have hr1 : Room 1 _ := hr
    refine ⟨_, pss_cons (ps_par (i := 2) (j := 3) rfl scList.nd rfl rfl (by decide) rfl rfl (pa_cons (pe_listRg rfl (by rfl) B.list (prg_1 (by rfl) B.range (pv 1))) (pa_cons (pe_lst pa_nil) pa_nil)) rfl)
      (pss_cons (ps_for PassesOwn.never rfl (pi_range1 (by rfl) B.range (pa_cons (pe_call GR hr1 rfl gR FR.kp bR .nil pass0 (pa_cons (pv 0) (pa_cons (pe_op op_add (pv 1) pe_int) pa_nil))) pa_nil)) (pg_name (i := 4) scList.nd rfl (Or.inl rfl))
        (pss_cons (ps_set (i := 5) scList.nd rfl (Or.inl rfl) (pe_ix ix_list (pv 2) (pe_call GR hr1 rfl gR FR.kp bR .nil pass0 (pa_cons (pv 0) (pa_cons (pe_callB call_len_seq (by rfl) B.len PySem.boot_len (pa_cons (pv 2) pa_nil)) pa_nil))) (fun _ _ => rfl)))
        (pss_cons (ps_expr (pe_bm PySem.F.plainAttrs_list PySem.F.slot_list_append PySem.F.type_list_append mt_append (pv 3) (pa_cons (pv 5) pa_nil)))
        (pss_one (ps_expr (pe_bm PySem.F.plainAttrs_list PySem.F.slot_list_remove PySem.F.type_list_remove mt_remove (pv 2) (pa_cons (pv 5) pa_nil)))))))
      (pss_one (ps_ret (pe_callTy call_tupN (by rfl) B.tuple (by decide +kernel) (pa_cons (pv 3) pa_nil))))), ?_⟩
    refine ⟨_, rfl, _, rfl, RgOk.of_le (by omega) (by omega) (by omega) (by omega), fun a ha => ?_⟩
    have rg : rgV 0 (m : Int) = (List.range m).map iv := by
      unfold rgV
      rw [show ((m : Int) - 0).toNat = m by omega]
      refine List.map_congr_left fun n _ => ?_
      rw [Int.zero_add]
    rw [rg]
    refine ⟨Nat.zero_le _, fun b hb => ⟨_, _, rfl, ?_⟩⟩
    have x1 : Xo T (fun b => b = d) H (upd (upd H a (.lst ((List.range m).map iv))) b (.lst [])) := (Xo.new1 ha).new hb
    have had : a ≠ d := fun e => by rw [e, hD] at ha; cases ha
    have hba : b ≠ a := fun e => by rw [e, upd_same] at hb; cases hb
    have hb0 : H b = none := by rw [upd_ne hba] at hb; exact hb
    have hbd : b ≠ d := fun e => by rw [e, hD] at hb0; cases hb0
    have ha1 : upd (upd H a (.lst ((List.range m).map iv))) b (.lst []) a = some (.lst ((List.range m).map iv)) := by rw [upd_ne hba.symm, upd_same]
    have hb1 : upd (upd H a (.lst ((List.range m).map iv))) b (.lst []) b = some (.lst []) := upd_same
    have hd1 : upd (upd H a (.lst ((List.range m).map iv))) b (.lst []) d = some (dc x y z) := by rw [upd_ne hbd.symm, upd_ne had.symm]; exact hD
    generalize upd (upd H a (.lst ((List.range m).map iv))) b (.lst []) = H1 at x1 ha1 hb1 hd1 ⊢
    refine ⟨_, rfl, _, rfl, _, _, rfl, rfl, d, m + 1, x, y, z, rfl, by omega, by omega, hd1, fun H2 x' y' z' n x2 hd2 hn => ?_⟩
    have ha2 := x2.lst ha1 had
    have hb2 := x2.lst hb1 hbd
    refine ⟨(n : Nat), rfl, by omega, by omega, ?_⟩
    refine for_range (lo := 0) (n := n) (fun i σ H' => ∃ (z4 z5 : Option V) (x y z : Int) (L F : List Nat), σ = [some (.ref d), some (iv m), some (.ref a), some (.ref b), z4, z5] ∧ Xo T (fun b => b = d) H H' ∧ H' d = some (dc x y z) ∧ H' a = some (.lst (L.map iv)) ∧ H' b = some (.lst (F.map iv)) ∧
        (F ++ L).Nodup ∧ (∀ t ∈ F ++ L, t < m) ∧ F.length = i ∧ F.length + L.length = m)
      ⟨none, none, x', y', z', List.range m, [], rfl, x1.trans x2, hd2, ha2, hb2, List.nodup_range, fun t ht => by simpa using ht, rfl, by simp⟩ (fun i σ H' hi ⟨z4, z5, x, y, z, L, F, hσ, hx, hd, ha', hb', nd, lt, hF, hFL⟩ => ?_) (fun σ H' ⟨z4, z5, x, y, z, L, F, hσ, hx, hd, ha', hb', nd, lt, hF, hFL⟩ => ?_)
    · subst hσ
      refine ⟨_, rfl, _, rfl, _, rfl, a, _, rfl, .inl (SqL.of ha'), d, L.length, x, y, z, by rw [List.length_map]; rfl, by omega, by omega, hd, fun H3 x' y' z' r x3 hd3 hr => ?_⟩
      have ha3 := x3.lst ha' had
      have hb3 := x3.lst hb' hbd
      have eL : L[r]? = some L[r] := List.getElem?_eq_getElem hr
      generalize ht : L[r] = t at eL
      have hLn := (List.nodup_append.mp nd).2.1
      have hperm : (F ++ [t] ++ L.eraseIdx r).Perm (F ++ L) := by
        have p : (t :: L.eraseIdx r).Perm L := by rw [← ht]; exact cons_erase_perm hr
        rw [List.append_assoc]
        exact p.append_left F
      have eLz : (L.map fun n : Nat => (n : Int))[r]? = some (t : Int) := by rw [List.getElem?_map, eL]; rfl
      refine ⟨a, _, _, iv t, rfl, rfl, SqL.of ha3, atI_nat (by rw [List.getElem?_map, eL]; rfl), ?_⟩
      refine ⟨_, rfl, .inl ⟨rfl, _, SqL.of hb3⟩, _, rfl, b, _, _, rfl, rfl, hb3, by rw [List.length_map, sizeLine_eq]; omega, ?_⟩
      have x4 := ((hx.trans x3).mut (a := b) (o := .lst (F.map iv ++ [iv t])) (.inl hb0) (by rw [hb3]; exact Soft.lst))
      have ha4 : upd H3 b (.lst (F.map iv ++ [iv t])) a = some (.lst (L.map iv)) := by rw [upd_ne hba.symm]; exact ha3
      have hb4 : upd H3 b (.lst (F.map iv ++ [iv t])) b = some (.lst (F.map iv ++ [iv t])) := upd_same
      have hd4 : upd H3 b (.lst (F.map iv ++ [iv t])) d = some (dc x' y' z') := by rw [upd_ne hbd.symm]; exact hd3
      generalize upd H3 b (.lst (F.map iv ++ [iv t])) = H4 at x4 ha4 hb4 hd4 ⊢
      have eL2 : L.map iv = (L.map fun n : Nat => (n : Int)).map V.int := by rw [List.map_map]; rfl
      have ha5 := ha4
      rw [eL2] at ha5
      refine ⟨_, rfl, .inl ⟨rfl, _, SqL.of ha4⟩, _, rfl, a, _, (t : Int), r, rfl, rfl, ha5, eLz, fun k hk e => ?_, ?_⟩
      · rw [List.getElem?_map] at e
        cases ek : L[k]? with
        | none => rw [ek] at e; cases e
        | some t' =>
          rw [ek] at e
          have e2 : (t' : Int) = (t : Int) := Option.some.inj e
          obtain ⟨hk2, e3⟩ := List.getElem?_eq_some_iff.mp ek
          refine List.pairwise_iff_getElem.mp (List.nodup_iff_pairwise_ne.mp hLn) k r hk2 hr hk ?_
          rw [e3, ht]
          omega
      · rw [map_eraseIdx, List.map_map]
        refine ⟨_, _, x', y', z', L.eraseIdx r, F ++ [t], rfl, x4.mut (.inl ha) (by rw [ha4]; exact Soft.lst), ?_, ?_, ?_, ?_, ?_, ?_, ?_⟩
        · rw [upd_ne had.symm]
          exact hd4
        · rw [upd_same]
          rfl
        · rw [upd_ne hba, hb4, List.map_append]
          rfl
        · exact hperm.nodup_iff.mpr nd
        · exact fun k hk => lt k (hperm.mem_iff.mp hk)
        · rw [List.length_append, List.length_singleton, hF]
        · rw [List.length_append, List.length_singleton, List.length_eraseIdx]
          split <;> omega
    · subst hσ
      refine ⟨_, rfl, b, _, rfl, SqL.of hb', fun t ob hob ht => ?_⟩
      refine q _ x y z t F (hx.new ht) ?_ ?_ ⟨ob, hob, upd_same⟩ ?_ ?_ (by omega)
      · rw [upd_ne (ne_of_none hd ht)]
        exact hd
      · exact hx.free ht fun e => by rw [e, hd] at ht; cases ht
      · exact (List.nodup_append.mp nd).1
      · exact fun t ht => lt t (List.mem_append_left _ ht)
end
end G3

set_option Elab.async false
set_option linter.all false
set_option maxRecDepth 100000
set_option maxHeartbeats 2000000
namespace G3
open PySem PySem.Spec PyProof.Rows L2
/-! ### _law_givings -/
theorem eqV_key (a b : Option Nat) : eqV (keyV a) (keyV b) = decide (a = b) := by
  cases a with
  | none =>
    cases b with
    | none => rfl
    | some b => rfl
  | some a =>
    cases b with
    | none => rfl
    | some b =>
      have e : eqV (keyV (some a)) (keyV (some b)) = decide (a = b) := eqV_iv a b
      rw [e]
      simp
theorem inV_keys {x : Option Nat} {l : List (Option Nat)} : inV (keyV x) (l.map keyV) = decide (x ∈ l) := by
  induction l with
  | nil => rfl
  | cons a l ih =>
    have e : inV (keyV x) ((a :: l).map keyV) = (eqV (keyV a) (keyV x) || inV (keyV x) (l.map keyV)) := rfl
    rw [e, ih, eqV_key]
    by_cases h : a = x
    · simp [h]
    · have h' : ¬ x = a := fun z => h z.symm
      simp [h, h']
theorem flat_key (x : Option Nat) : flatV (keyV x) = true := by cases x <;> rfl
theorem flat_keys (l : List (Option Nat)) : (l.map keyV).all flatV = true := by
  rw [List.all_map, List.all_eq_true]
  exact fun x _ => flat_key x
theorem SqT.setL {K : PySem.W.Frag} {H : Hp} {t D : Addr} {vs xs ys : List V} (h : SqT K H t vs) (hD : H D = some (.lst xs)) : SqT K (upd H D (.lst ys)) t vs :=
  SqT.upd_ne2 h (by rw [hD]; exact fun _ z => by cases z) (by rw [hD]; exact fun _ _ z => by cases z)
abbrev givN : List Str := ["_law_lists", "_law_found", "_law_order", "_law_row", "_law_thing"]
theorem scGivings : FnScope givN ["_law_lists"] (defScope sGivings) := ⟨rfl, rfl, rfl, by decide +kernel, rfl, by decide +kernel, by decide +kernel⟩
abbrev scG1 : Scope := { kind := .function, names := [(".0", .local), ("_law_row", .cell), ("list", .globalImplicit), ("_law_order", .cell)], isGenerator := false, isCoroutine := false, more := [] }
abbrev scG2 : Scope := { kind := .function, names := [(".0", .local), ("_law_thing", .local), ("_law_row", .free)], isGenerator := false, isCoroutine := false, more := [] }
abbrev rLs (K : PySem.W.Frag) : List V → Hp → VK → Prop := fun xs H Q => ∃ p ys, xs = [.ref p] ∧ (SqL K H p ys ∨ SqT K H p ys) ∧ ∀ l, H l = none → Q (.ref l) (upd H l (.lst ys))
abbrev tInner (K : PySem.W.Frag) : TE := tLc (iList K (tOp rCat (tLst (tCons (tC .non) tNil)) (tCB (rLs K) (tCons (tVar 2) tNil)))) (gName 4)
  (tOr (tTest (tOp (fun x y H Q => y = .non ∧ Q (.bl (decide (x = .non))) H) (tVar 4) (tC .non))) (tTest (tOp (rIn K true) (tVar 4) (tVar 3)))) (tOp (rCatA K) (tVar 3) (tTup (tCons (tVar 4) tNil))) [4]
abbrev cand (order : List Nat) : List (Option Nat) := none :: order.map some
theorem cand_vs (order : List Nat) : V.non :: order.map iv = (cand order).map keyV := by
  rw [List.map_cons, List.map_map]
  rfl
def spGivings (K : PySem.W.Frag) (T : TbA) : Sp := fun vs H Q _ => ∃ (a : Addr) (ts : List Addr) (ls : List (List Nat)), vs = [.ref a] ∧ SqL K H a (ts.map V.ref) ∧ Lsts K H ts ls ∧ ls.length ≤ 4 ∧ (∀ l ∈ ls, l.length ≤ 3) ∧
  ∀ H' t qs, Xo T nM H H' → H' t = some (.lst (qs.map V.ref)) → Givs K H' qs (givs ls) → Q (.ref t) H'
section
variable {P : Program} {w : World} {K : PySem.W.Frag} {mg : Str → Option Value} {base : Heap} {T : TbA}
/-- [row + (thing,) for thing in [None] + list(order) if thing is None or thing not in row] -/
theorem rd_inner {σ : L2.St} {H : Hp} {o r : Addr} {order : List Nat} {row : List (Option Nat)} {Q : VK} (h2 : σ[2]? = some (some (.ref o))) (hO : SqT K H o (order.map iv)) (hR : SqT K H r (row.map keyV)) (hz : order.length ≤ 50) (hz2 : row.length ≤ 50)
    (hσ : ∀ x : V, ((wipe σ [4]).set 4 (some x))[4]? = some (some x) ∧ ((wipe σ [4]).set 4 (some x))[3]? = some (some (.ref r)) ∧ wipe ((wipe σ [4]).set 4 (some x)) [4] = wipe σ [4])
    (q : ∀ H' D qs, Xo T nM H H' → H D = none → H' D = some (.lst (qs.map V.ref)) → Givs K H' qs (ext1 order row) → Q (.ref D) H') : tInner K σ H Q := by
  refine ⟨by show 1 ≤ sizeLine; decide, fun u hu => ⟨_, h2, o, _, rfl, .inr ((Xo.new1 (T := T) hu).sT hO), fun l hl => ?_⟩⟩
  have x0 : Xo T nM H (upd (upd H u (.lst [.non])) l (.lst (order.map iv))) := (Xo.new1 hu).new hl
  have hul : u ≠ l := fun e => by rw [← e, upd_same] at hl; cases hl
  refine ⟨u, l, [.non], order.map iv, rfl, rfl, by rw [upd_ne hul, upd_same], upd_same, by rw [List.length_map, sizeLine_eq]; show 1 + order.length ≤ _; omega, fun p hp => ?_⟩
  have x1 := x0.new (o := .lst ([.non] ++ order.map iv)) hp
  have h1 : upd (upd (upd H u (.lst [.non])) l (.lst (order.map iv))) p (.lst ([.non] ++ order.map iv)) p = some (.lst ([.non] ++ order.map iv)) := upd_same
  generalize upd (upd (upd H u (.lst [.non])) l (.lst (order.map iv))) p (.lst ([.non] ++ order.map iv)) = H1 at x1 h1 ⊢
  have ec : [V.non] ++ order.map iv = (cand order).map keyV := cand_vs order
  rw [ec] at h1
  have hL := SqL.of (K := K) h1
  refine ⟨p, rfl, ⟨_, hL⟩, fun D hD => lc_list (K := K) (a := p) (xs := (cand order).map keyV) (fun i H' => ∃ qs : List Addr, Xo T nM H1 H' ∧ H' D = some (.lst (qs.map V.ref)) ∧ Givs K H' qs ((((cand order).take i).filter (okT row)).map fun t => row ++ [t]))
    ⟨[], Xo.new1 hD, upd_same, .nil⟩ (fun i H' _ ⟨_, x, _⟩ => x.sL hL) (fun i x H' hi ⟨qs, hx, hF, hg⟩ => ?_) (fun H' ⟨qs, hx, hF, hg⟩ => ?_)⟩
  · rw [List.getElem?_map] at hi
    cases ec : (cand order)[i]? with
    | none => rw [ec] at hi; cases hi
    | some t =>
      rw [ec] at hi
      obtain rfl : keyV t = x := Option.some.inj hi
      obtain ⟨s4, s3, sw⟩ := hσ (keyV t)
      refine ⟨sw, ?_⟩
      have hR' := hx.sT (x1.sT hR)
      have take1 : (((cand order).take (i + 1)).filter (okT row)).map (fun t => row ++ [t]) = (((cand order).take i).filter (okT row)).map (fun t => row ++ [t]) ++ (if okT row t = true then [row ++ [t]] else []) := by
        rw [List.take_add_one, ec, List.filter_append, List.map_append]
        congr 1
        by_cases h : okT row t = true <;> simp [h]
      rw [take1]
      have hql : qs.length ≤ 51 := by
        have h1 := Paired.length hg
        rw [List.length_map] at h1
        have h2 := List.length_filter_le (okT row) ((cand order).take i)
        rw [List.length_take, List.length_cons, List.length_map] at h2
        omega
      -- the item is put in
      have add : okT row t = true → tOp (rCatA K) (tVar 3) (tTup (tCons (tVar 4) tNil)) ((wipe σ [4]).set 4 (some (keyV t))) H' fun y H4 => ∃ acc, H4 D = some (.lst acc) ∧ acc.length < sizeLine ∧
          ∃ qs : List Addr, Xo T nM H1 (upd H4 D (.lst (acc ++ [y]))) ∧ (upd H4 D (.lst (acc ++ [y]))) D = some (.lst (qs.map V.ref)) ∧ Givs K (upd H4 D (.lst (acc ++ [y]))) qs ((((cand order).take i).filter (okT row)).map (fun t => row ++ [t]) ++ (if okT row t = true then [row ++ [t]] else [])) := fun hok => by
        rw [if_pos hok]
        refine ⟨_, s3, _, s4, by show 1 ≤ sizeLine; decide, fun v hv => ?_⟩
        have y1 : Xo T nM H' (upd H' v (.tup [keyV t])) := .new1 hv
        have hV : SqT K (upd H' v (.tup [keyV t])) v [keyV t] := SqT.of upd_same
        have fin : ∀ (H4 : Hp) (e : Addr), Xo T nM H' H4 → SqT K H4 e ((row ++ [t]).map keyV) → ∃ acc, H4 D = some (.lst acc) ∧ acc.length < sizeLine ∧
          ∃ qs : List Addr, Xo T nM H1 (upd H4 D (.lst (acc ++ [.ref e]))) ∧ (upd H4 D (.lst (acc ++ [.ref e]))) D = some (.lst (qs.map V.ref)) ∧ Givs K (upd H4 D (.lst (acc ++ [.ref e]))) qs ((((cand order).take i).filter (okT row)).map (fun t => row ++ [t]) ++ [row ++ [t]]) := fun H4 e y2 he => by
          have hF4 := y2.lst hF (fun z => z)
          refine ⟨_, hF4, by rw [List.length_map, sizeLine_eq]; omega, qs ++ [e], (hx.trans y2).mut (.inl hD) (by rw [hF4]; exact Soft.lst), by rw [upd_same, List.map_append]; rfl, ?_⟩
          refine (Paired.mapP hg fun a b z => SqT.setL (y2.sT z) hF4).snoc (SqT.setL he hF4)
        refine ⟨r, v, _, _, rfl, rfl, y1.sT hR', hV, by rw [List.length_map, List.length_singleton, sizeLine_eq]; omega, fun e => ?_, (fun _ e => nomatch e), fun _ _ p2 hp2 => ?_⟩
        · refine fin _ v y1 ?_
          rw [List.map_append, e]
          exact hV
        · refine fin _ p2 (y1.new hp2) ?_
          rw [List.map_append]
          exact SqT.of upd_same
      cases t with
      | none => 
        refine ⟨_, s4, rfl, _, rfl, ?_⟩
        exact add rfl
      | some t =>
        refine ⟨_, s4, rfl, _, rfl, _, s4, _, s3, r, _, rfl, .inr hR', rfl, flat_keys _, _, rfl, ?_⟩
        rw [inV_keys]
        have ek : okT row (some t) = !decide (some t ∈ row) := by unfold okT; simp
        by_cases hm : some t ∈ row
        · have : okT row (some t) = false := by rw [ek, decide_eq_true hm]; rfl
          rw [decide_eq_true hm, this]
          refine ⟨qs, hx, hF, ?_⟩
          simpa using hg
        · have : okT row (some t) = true := by rw [ek, decide_eq_false hm]; rfl
          rw [decide_eq_false hm]
          exact add this
  · rw [List.length_map, List.take_of_length_le (Nat.le_refl _)] at hg
    exact q H' D qs (x1.trans hx) (x1.free hD (fun z => z)) hF hg
abbrev tOuter (K : PySem.W.Frag) : TE := tLc (iList K (tVar 1)) (gName 3) tYes (tInner K) [3]
theorem ext1_len {order : List Nat} {row : List (Option Nat)} : (ext1 order row).length ≤ order.length + 1 := by
  unfold ext1
  rw [List.length_map]
  refine Nat.le_trans (List.length_filter_le ..) ?_
  rw [List.length_cons, List.length_map]
  exact Nat.le_refl _
theorem flatten_len {α : Type} {n : Nat} : ∀ {xss : List (List α)}, (∀ xs ∈ xss, xs.length ≤ n) → xss.flatten.length ≤ n * xss.length
  | [], _ => by simp
  | xs :: xss, h => by
    have h1 := h xs List.mem_cons_self
    have h2 := flatten_len (xss := xss) fun ys hy => h ys (List.mem_cons_of_mem _ hy)
    rw [List.flatten_cons, List.length_append, List.length_cons, Nat.mul_succ]
    omega
theorem stepG_len {found : List (List (Option Nat))} {order : List Nat} (h : order.length ≤ 3) : (stepG found order).length ≤ 4 * found.length := by
  have := flatten_len (n := 4) (xss := found.map (ext1 order)) fun xs hx => by
    obtain ⟨r, _, rfl⟩ := List.mem_map.mp hx
    have := ext1_len (order := order) (row := r)
    omega
  rw [List.length_map] at this
  exact this
/-- [[..] for row in found] -/
theorem rd_outer {σ : L2.St} {H : Hp} {o fo : Addr} {rs : List Addr} {order : List Nat} {found : List (List (Option Nat))} {Q : VK} (h1 : σ[1]? = some (some (.ref fo))) (hF0 : SqL K H fo (rs.map V.ref)) (hg0 : Givs K H rs found) (hO : SqT K H o (order.map iv)) (hz : order.length ≤ 50) (hz2 : ∀ row ∈ found, row.length ≤ 50) (hz3 : found.length ≤ 1000)
    (hσ : ∀ x : V, ((wipe σ [3]).set 3 (some x))[2]? = some (some (.ref o)) ∧ wipe ((wipe σ [3]).set 3 (some x)) [3] = wipe σ [3] ∧ ∀ y : V, ((wipe ((wipe σ [3]).set 3 (some x)) [4]).set 4 (some y))[4]? = some (some y) ∧ ((wipe ((wipe σ [3]).set 3 (some x)) [4]).set 4 (some y))[3]? = some (some x) ∧ wipe ((wipe ((wipe σ [3]).set 3 (some x)) [4]).set 4 (some y)) [4] = wipe ((wipe σ [3]).set 3 (some x)) [4])
    (q : ∀ H' D bs qss, Xo T nM H H' → H' D = some (.lst (bs.map V.ref)) → Paired (fun b qs => H' b = some (.lst (qs.map V.ref))) bs qss → Paired (fun qs e => Givs K H' qs e) qss (found.map (ext1 order)) → Q (.ref D) H') : tOuter K σ H Q := by
  refine ⟨_, h1, fo, rfl, ⟨_, hF0⟩, fun D hD => lc_list (K := K) (a := fo) (xs := rs.map V.ref) (fun i H' => ∃ (bs : List Addr) (qss : List (List Addr)), Xo T nM H H' ∧ H' D = some (.lst (bs.map V.ref)) ∧ Paired (fun b qs => b ≠ D ∧ H' b = some (.lst (qs.map V.ref))) bs qss ∧ Paired (fun qs e => Givs K H' qs e) qss ((found.take i).map (ext1 order)))
    ⟨[], [], Xo.new1 hD, upd_same, .nil, .nil⟩ (fun i H' _ ⟨_, _, x, _⟩ => x.sL hF0) (fun i x H' hi ⟨bs, qss, hx, hF, hb, hg⟩ => ?_) (fun H' ⟨bs, qss, hx, hF, hb, hg⟩ => ?_)⟩
  · rw [List.getElem?_map] at hi
    cases er : rs[i]? with
    | none => rw [er] at hi; cases hi
    | some r =>
      rw [er] at hi
      obtain rfl : V.ref r = x := Option.some.inj hi
      obtain ⟨row, erow, hr⟩ := paired_get hg0 er
      obtain ⟨s2, sw, sy⟩ := hσ (.ref r)
      refine ⟨sw, ?_⟩
      unfold tYes
      dsimp only
      rw [if_pos (rfl : true = true)]
      refine rd_inner (T := T) (K := K) (o := o) (r := r) (order := order) (row := row) s2 (hx.sT hO) (hx.sT hr) hz (hz2 row (List.mem_of_getElem? erow)) sy fun H2 D2 qs y hD2 hF2 hg2 => ?_
      have hFD := y.lst hF (fun z => z)
      have hne : D2 ≠ D := fun e => by rw [e, hF] at hD2; cases hD2
      have hbl : bs.length ≤ 1000 := by
        have e1 := Paired.length hb
        have e2 := Paired.length hg
        rw [List.length_map, List.length_take] at e2
        omega
      refine ⟨_, hFD, by rw [List.length_map, sizeLine_eq]; omega, bs ++ [D2], qss ++ [qs], (hx.trans y).mut (.inl hD) (by rw [hFD]; exact Soft.lst), by rw [upd_same, List.map_append]; rfl, ?_, ?_⟩
      · refine (Paired.mapP hb fun a b z => ⟨z.1, (upd_ne z.1).trans (y.lst z.2 (fun z => z))⟩).snoc ⟨hne, (upd_ne hne).trans hF2⟩
      · rw [List.take_add_one, erow, List.map_append]
        exact (Paired.mapP hg fun a b z => Paired.mapP z fun c d w => SqT.setL (y.sT w) hFD).snoc (Paired.mapP hg2 fun c d w => SqT.setL w hFD)
  · have hlen : rs.length = found.length := Paired.length hg0
    rw [List.length_map, hlen, List.take_of_length_le (Nat.le_refl _)] at hg
    exact q H' D bs qss hx hF (Paired.mapP hb fun a b z => z.2) hg
theorem paired_app {α β : Type} {F : α → β → Prop} : ∀ {xs : List α} {ys : List β} {xs' : List α} {ys' : List β}, Paired F xs ys → Paired F xs' ys' → Paired F (xs ++ xs') (ys ++ ys')
  | _, _, _, _, .nil, h => h
  | _, _, _, _, .cons a t, h => .cons a (paired_app t h)
theorem paired_flat {α β : Type} {F : α → β → Prop} : ∀ {xss : List (List α)} {yss : List (List β)}, Paired (fun xs ys => Paired F xs ys) xss yss → Paired F xss.flatten yss.flatten
  | _, _, .nil => .nil
  | _, _, .cons h t => by
    rw [List.flatten_cons, List.flatten_cons]
    exact paired_app h (paired_flat t)
theorem paired_mapR {α β γ : Type} {F : α → γ → Prop} (f : β → γ) : ∀ {xs : List α} {ys : List β}, Paired (fun x y => F x (f y)) xs ys → Paired F xs (ys.map f)
  | _, _, .nil => .nil
  | _, _, .cons a t => .cons a (paired_mapR f t)
theorem paired_fl_len {α β : Type} {F : α → β → Prop} {xss : List (List α)} {yss : List (List β)} (h : Paired (fun xs ys => Paired F xs ys) xss yss) : xss.flatten.length = yss.flatten.length := Paired.length (paired_flat h)
theorem giv_row_len (ls : List (List Nat)) (i : Nat) : ∀ g ∈ givs (ls.take i), g.length ≤ ls.length := fun g hg => by
  rw [(mem_givs.mp hg).len, List.length_take]
  omega
theorem givs_snoc (ls : List (List Nat)) (i : Nat) {l : List Nat} (h : ls[i]? = some l) : givs (ls.take (i + 1)) = stepG (givs (ls.take i)) l := by
  unfold givs
  rw [List.take_add_one, h, List.foldl_append]
  rfl
theorem givs_len {ls : List (List Nat)} (h : ∀ l ∈ ls, l.length ≤ 3) : ∀ i, i ≤ ls.length → (givs (ls.take i)).length ≤ 4 ^ i
  | 0, _ => by simp [givs]
  | i + 1, hi => by
    have ih := givs_len h i (by omega)
    have e : ls[i]? = some ls[i] := List.getElem?_eq_getElem (by omega)
    rw [givs_snoc ls i e, Nat.pow_succ]
    have := stepG_len (found := givs (ls.take i)) (h _ (List.mem_of_getElem? e))
    omega
theorem ok_givings {f ff : Addr} {fd fdf : FuncData} (F : Fun K "_law_givings" "_law_givings" sGivings f fd) (B : Blt mg) (FF : Fun K "_law_flat" "_law_flat" sFlat ff fdf) (bF : Binds K fdf ["_law_rows"] []) (gF : mg "_law_flat" = some (.ref ff)) :
    FnOk P w K mg base CX0 2 f fd ["_law_lists"] (spGivings K T) := by
  have GF : FnOk P w K mg base CX0 1 ff fdf ["_law_rows"] (spFlat K T) := ok_flat FF B
  refine F.ok scGivings (fun vs H Q E h => ?_) (fun cdv A outer s H vs Q E hr h => ?_)
  · obtain ⟨a, ts, ls, rfl, _⟩ := h
    rfl
  · obtain ⟨a, ts, ls, rfl, hL, hls, hn, hl3, q⟩ := h
    have hr1 : Room 1 _ := hr
    refine ⟨_, pss_cons (ps_set (i := 1) scGivings.nd rfl (Or.inl rfl) (pe_lst (pa_cons (pe_tup pa_nil) pa_nil)))
      (pss_cons (ps_for PassesOwn.never rfl (pi_list (pv 0)) (pg_name (i := 2) scGivings.nd rfl (Or.inr rfl))
        (pss_one (ps_set (i := 1) scGivings.nd rfl (Or.inl rfl) (pe_call GF hr1 rfl gF FF.kp bF .nil pass0 (pa_cons (pe_lc (own := [("_law_row", 3)]) (g := gName 3) (tt := tYes) (te := tInner K) rfl scGivings.nd (pi_list (pv 1)) (blkOk_by (N := givN) (sc := defScope sGivings) (by decide +kernel))
            (fun _ _ _ _ _ => pg_name (i := 3) scGivings.nd rfl (Or.inr rfl)) (fun _ _ _ _ _ => pts_nil)
            (fun _ _ _ _ _ => pe_lc (own := [("_law_thing", 4)]) (g := gName 4) rfl scGivings.nd (pi_list (pe_op op_cat (pe_lst (pa_cons pe_non pa_nil)) (pe_callTy call_list_of (by rfl) B.list (by decide +kernel) (pa_cons (pv 2) pa_nil)))) (blkOk_by (own := [("_law_thing", 4)]) (N := givN) (sc := scG1) (scope := scG2) (by decide +kernel))
              (fun _ _ _ _ _ => pg_name (i := 4) scGivings.nd rfl (Or.inl rfl)) (fun _ _ _ _ _ => pts_one (PW.pt (pw_or (pt_cmpR op_isN (pv 4) pe_non (nomark _)) (pw_or1 (pt_cmpR op_notIn_seq (pv 4) (pv 3) (by rfl)))))) (fun _ _ _ _ _ => pe_op op_catA (pv 3) (pe_tup (pa_cons (pv 4) pa_nil))))) pa_nil)))))
      (pss_one (ps_ret (pv 1)))), ?_⟩
    refine ⟨Nat.zero_le _, fun t0 ht0 => ⟨by show 1 ≤ sizeLine; decide, fun l0 hl0 => ?_⟩⟩
    have x0 : Xo T nM H (upd (upd H t0 (.tup [])) l0 (.lst [.ref t0])) := (Xo.new1 ht0).new hl0
    have htl : t0 ≠ l0 := fun e => by rw [← e, upd_same] at hl0; cases hl0
    have ht1 : SqT K (upd (upd H t0 (.tup [])) l0 (.lst [.ref t0])) t0 [] := (Xo.new1 (T := T) hl0).sT (SqT.of upd_same)
    have hl1 : upd (upd H t0 (.tup [])) l0 (.lst [.ref t0]) l0 = some (.lst [.ref t0]) := upd_same
    refine ⟨_, rfl, a, rfl, ⟨_, x0.sL hL⟩, for_list (K := K) (a := a) (xs := ts.map V.ref) (fun i σ H' => ∃ (z2 : Option V) (l : Addr) (qs : List Addr), σ = [some (.ref a), some (.ref l), z2, none, none] ∧ Xo T nM H H' ∧ H' l = some (.lst (qs.map V.ref)) ∧ Givs K H' qs (givs (ls.take i)))
      ⟨none, l0, [t0], rfl, x0, hl1, .cons ht1 .nil⟩ (fun i σ H' _ ⟨_, _, _, _, x, _⟩ => x.sL hL) (fun i x σ H' hi ⟨z2, l, qs, hσ, hx, hF, hg⟩ => ?_) (fun σ H' ⟨z2, l, qs, hσ, hx, hF, hg⟩ => ?_)⟩
    · subst hσ
      rw [List.getElem?_map] at hi
      cases et : ts[i]? with
      | none => rw [et] at hi; cases hi
      | some t =>
        rw [et] at hi
        obtain rfl : V.ref t = x := Option.some.inj hi
        obtain ⟨o, eo, hto⟩ := paired_get hls et
        have ho3 := hl3 o (List.mem_of_getElem? eo)
        have hin := (List.getElem?_eq_some_iff.mp eo).1
        have hgl := givs_len hl3 i (by omega)
        have hgl2 := givs_len hl3 (i + 1) (by omega)
        have p1 : 4 ^ i ≤ 256 := Nat.le_trans (Nat.pow_le_pow_right (by decide) (show i ≤ 4 by omega)) (by decide)
        have p2 : 4 ^ (i + 1) ≤ 256 := Nat.le_trans (Nat.pow_le_pow_right (by decide) (show i + 1 ≤ 4 by omega)) (by decide)
        unfold gName tAsg tCall tCons
        refine rd_outer (T := T) (K := K) (σ := [some (.ref a), some (.ref l), some (.ref t), none, none]) (o := t) (fo := l) (rs := qs) (order := o) (found := givs (ls.take i)) rfl (SqL.of hF) hg (hx.sT hto) (by omega) (fun row hrow => by have := giv_row_len ls i row hrow; omega) (by omega) (fun x => ⟨rfl, rfl, fun y => ⟨rfl, rfl, rfl⟩⟩) fun H2 D bs qss y hD hb hg2 => ?_
        have hgf : Givs K H2 qss.flatten (givs (ls.take (i + 1))) := by
          rw [givs_snoc ls i eo]
          exact paired_flat hg2
        have hfl : (qss.map fun qs => qs.map V.ref).flatten = qss.flatten.map V.ref := by rw [List.map_flatten]
        have hql : qss.flatten.length ≤ 256 := by rw [Paired.length hgf]; omega
        refine ⟨D, bs, qss.map fun qs => qs.map V.ref, rfl, SqL.of hD, paired_mapR _ hb, by rw [hfl, List.length_map]; omega, fun H3 l3 y3 hl30 hl3 => ?_⟩
        rw [hfl] at hl3
        exact ⟨_, l3, qss.flatten, rfl, (hx.trans y).trans y3, hl3, Paired.mapP hgf fun a b z => y3.sT z⟩
    · subst hσ
      have hlen : ts.length = ls.length := Paired.length hls
      rw [List.length_map, hlen, List.take_of_length_le (Nat.le_refl _)] at hg
      exact ⟨_, rfl, q _ l qs hx hF hg⟩
end
end G3

set_option Elab.async false
set_option linter.all false
set_option maxRecDepth 100000
set_option maxHeartbeats 2000000
namespace G3
open PySem PySem.Spec PyProof.Rows L2
/-! ### o.index(e), o a tuple without a dict -/
def tTix (K : PySem.W.Frag) (to te : TE) : TE := fun σ H Q => to σ H fun v H1 => ∃ a xs, v = .ref a ∧ FrT H1 a xs ∧ te σ H1 fun y H2 => SqT K H2 a xs ∧ ∃ (j : Nat) (z : V), flatV y = true ∧ xs.all flatV = true ∧ xs[j]? = some z ∧ eqV z y = true ∧
  (∀ (m : Nat) (z' : V), m < j → xs[m]? = some z' → eqV z' y = false) ∧ Q (.int (j : Nat)) H2
theorem pe_tix {X : Cx} {o e : Expr} {to te : TE} {apos cpos : Pos} (ho : PE X o to) (he : PE X e te)
    (hbase : attributeBase o "index" X.env (eval o X.env) = eval o X.env := by rfl)
    (hfew : ((backTo cpos (starEach [e] X.env)).all (fun x => !x.1) && (backToKw cpos (keywordEach [] X.env)).all (fun x => x.1.isSome)
      && decide ([e].length + ([] : List Keyword).length + (if ([] : List Keyword).isEmpty then 0 else 1) < 30)) = true := by rfl)
    (hline : (apos.endLine == cpos.line) = true := by rfl) (hs : starEach [e] X.env = (false, eval e X.env) :: starEach [] X.env := by rfl) :
    PE X (.Call (.Attribute o "index" apos) [e] [] cpos) (tTix X.K to te) := by
  refine ⟨fun pins s σ H Q I h => ?_⟩
  refine wpAny_Call_method_late hbase hfew hline rfl (thn (ho.run pins s σ H _ I h) fun v s1 ⟨x, H1, I1, r1, q1⟩ => ?_)
  obtain ⟨a, xs, rfl, ⟨ob, hob, hF⟩, q1⟩ := q1
  obtain rfl : v = Value.ref a := r1
  have ok : ObjOk X.prog X.w H1 s1.heap a (.frz ob (.tup xs)) := I1.hok a _ hF
  obtain ⟨hget, _, _, _, o', ho', hc', _⟩ := ok
  rw [hget] at ho'
  obtain rfl : ob = o' := Option.some.inj ho'
  refine ⟨"tuple", "tuple.index", PySem.F.plainAttrs_tuple, PySem.F.slot_tuple_index, PySem.F.type_tuple_index, ⟨_, hget, hc'⟩, fun b e => ?_, ?_⟩
  · cases e
    exact ⟨_, hget, hob⟩
  · rw [hs]
    refine Calls.callWith_builtin (by rfl) (Calls.evalArgs_plain ?_)
    refine Calls.spliced_cons (thn (he.run pins s1 σ H1 _ I1 q1) fun uy s2 ⟨y, H2, I2, r2, q2⟩ => Calls.spliced_nil ?_)
    obtain ⟨hq, j, z, fy, fys, hz, hzj, hno, q⟩ := q2
    obtain ⟨its, r, pl, hlen⟩ := I2.tuple hq
    obtain ⟨⟨cls, dd, dt, sl⟩, ho2, hc, n, hd⟩ := pl
    simp only at hc hd
    subst hc
    subst hd
    obtain ⟨u, hu, ru⟩ := r.get hz
    obtain ⟨hjl, hje⟩ := List.getElem?_eq_some_iff.mp hu
    have hj : j < its.toArray.size := by simpa using hjl
    refine call_meets PySem.F.slot_tuple_index ⟨_, ho2, rfl⟩ PySem.F.entry_tuple_index (PySem.F.args_tuple_index_2 _ _) (TI.tuple_indexAt a its.toArray n dd sl uy (eqU y) j hj ?_ ?_)
      ⟨ho2, fun w hw => mem_eqAt r2 fy r fys w (by simpa using hw), ⟨.int (j : Nat), H2, I2.tok _, ⟨_, rfl⟩, q⟩⟩
    · have e1 : its.toArray[j] = u := by simpa using hje
      rw [e1, eqU_of ru (flat_at fys hz)]
      exact hzj
    · intro m hm hmj
      have hml : m < its.length := by simpa using hm
      have hvl := r.length
      have hmy : m < xs.length := by omega
      have hy' : xs[m]? = some xs[m] := List.getElem?_eq_getElem hmy
      obtain ⟨u2, hu2, ru2⟩ := r.get hy'
      obtain ⟨_, hme⟩ := List.getElem?_eq_some_iff.mp hu2
      have e1 : its.toArray[m] = u2 := by simpa using hme
      rw [e1, eqU_of ru2 (flat_at fys hy')]
      exact hno m _ hmj hy'
/-! ### _law_profile -/
abbrev LsF (H : Hp) : List Addr → List (List Nat) → Prop := Paired fun t l => FrT H t (l.map iv)
theorem LsF.xo {T : TbA} {H H1 : Hp} {ts : List Addr} {ls : List (List Nat)} (h : LsF H ts ls) (x : Xo T nM H H1) : LsF H1 ts ls := Paired.mapP h fun _ _ z => z.xo x (fun z => z)
def spLProf (K : PySem.W.Frag) (T : TbA) : Sp := fun vs H Q _ => ∃ (a g0 : Addr) (ts : List Addr) (ls : List (List Nat)) (g : List (Option Nat)), vs = [.ref a, .ref g0] ∧ PrOk K H a g0 ts ls g ∧ ls ≠ [] ∧ LsF H ts ls ∧
  ∀ H' t, Xo T nM H H' → H' t = some (.tup ((prof ls g).map V.int)) → Q (.ref t) H'
abbrev lpN : List Str := ["_law_lists", "_law_given", "_law_order", "_law_longest", "_law_place", "_law_k"]
theorem scLProf : FnScope lpN ["_law_lists", "_law_given"] (defScope sLProfile) := ⟨rfl, rfl, rfl, by decide +kernel, rfl, by decide +kernel, by decide +kernel⟩
abbrev scL1 : Scope := { kind := .function, names := [(".0", .local), ("_law_place", .cell), ("len", .globalImplicit), ("range", .globalImplicit), ("_law_given", .cell), ("_law_lists", .cell)], isGenerator := false, isCoroutine := false, more := [] }
abbrev scL2 : Scope := { kind := .function, names := [(".0", .local), ("_law_k", .local), ("_law_given", .free), ("_law_lists", .free), ("_law_place", .free)], isGenerator := false, isCoroutine := false, more := [] }
def at' (ls : List (List Nat)) (g : List (Option Nat)) (p k : Nat) : Bool := match got g k with
  | none => false
  | some t => decide (place ls k t = p)
theorem at_cnt (ls : List (List Nat)) (g : List (Option Nat)) (p : Nat) : ∀ n, ((((List.range n).filter (at' ls g p)).length : Nat) : Int) = sumTo (hit ls g p) n
  | 0 => rfl
  | n + 1 => by
    have ih := at_cnt ls g p n
    rw [List.range_succ, List.filter_append, List.length_append]
    show _ = sumTo (hit ls g p) n + hit ls g p n
    rw [← ih]
    unfold hit
    cases e : got g n with
    | none =>
      have : at' ls g p n = false := by unfold at'; rw [e]
      simp [this]
    | some t =>
      have : at' ls g p n = decide (place ls n t = p) := by unfold at'; rw [e]
      by_cases h : place ls n t = p
      · simp [this, h]
      · simp [this, h]
abbrev tAt (K : PySem.W.Frag) : TE := tLc (iRng1 (tCons (tCB (rLen K) (tCons (tVar 0) tNil)) tNil)) (gName 5)
  (tAnd (tTest (tOp (fun x y H Q => y = .non ∧ Q (.bl (!decide (x = .non))) H) (tOp (rIxT K) (tVar 1) (tVar 5)) (tC .non))) (tTest (tOp rEq (tTix K (tOp (rIxL K) (tVar 0) (tVar 5)) (tOp (rIxT K) (tVar 1) (tVar 5))) (tVar 4)))) (tVar 5) [5]
section
variable {P : Program} {w : World} {K : PySem.W.Frag} {mg : Str → Option Value} {base : Heap} {T : TbA}
theorem rd_at {σ : L2.St} {H : Hp} {a g0 : Addr} {ts : List Addr} {ls : List (List Nat)} {g : List (Option Nat)} {p : Nat} {Q : VK} (O : PrOk K H a g0 ts ls g) (hF : LsF H ts ls) (h0 : σ[0]? = some (some (.ref a)))
    (hσ : ∀ x : V, ((wipe σ [5]).set 5 (some x))[0]? = some (some (.ref a)) ∧ ((wipe σ [5]).set 5 (some x))[1]? = some (some (.ref g0)) ∧ ((wipe σ [5]).set 5 (some x))[4]? = some (some (iv p)) ∧ ((wipe σ [5]).set 5 (some x))[5]? = some (some x) ∧ wipe ((wipe σ [5]).set 5 (some x)) [5] = wipe σ [5])
    (q : ∀ H' D, Xo T nM H H' → H' D = some (.lst (((List.range ls.length).filter (at' ls g p)).map iv)) → Q (.ref D) H') : tAt K σ H Q := by
  have hlen : ts.length = ls.length := Paired.length O.hls
  have hl50 := O.len
  refine ⟨_, h0, a, _, rfl, .inl O.L, _, rfl, by omega, by rw [List.length_map]; omega, ?_⟩
  rw [List.length_map, hlen, Int.toNat_natCast]
  refine fun D hD => lc_range (lo := 0) (n := ls.length) (fun i H' => Xo T nM H H' ∧ H' D = some (.lst (((List.range i).filter (at' ls g p)).map iv))) ⟨Xo.new1 hD, upd_same⟩ (fun i H' hi ⟨hx, hD'⟩ => ?_) (fun H' ⟨hx, hD'⟩ => q H' D hx hD')
  rw [Int.zero_add]
  obtain ⟨s0, s1, s4, s5, sw⟩ := hσ (iv i)
  refine ⟨sw, ?_⟩
  have hgl : g.length = ls.length := O.giv.len
  have eg : g[i]? = some g[i] := List.getElem?_eq_getElem (by omega)
  generalize g[i] = o at eg
  have gi : got g i = o := got_of eg
  have egk : (g.map keyV)[i]? = some (keyV o) := by rw [List.getElem?_map, eg]; rfl
  have hflen : ((List.range i).filter (at' ls g p)).length ≤ i := Nat.le_trans (List.length_filter_le ..) (by rw [List.length_range]; exact Nat.le_refl _)
  refine ⟨_, s1, _, s5, g0, _, _, _, rfl, rfl, hx.sT O.G, atI_nat egk, rfl, _, rfl, ?_⟩
  rw [List.range_succ, List.filter_append]
  cases o with
  | none =>
    have : at' ls g p i = false := by unfold at'; rw [gi]
    refine iteF (iteF ⟨hx, ?_⟩)
    rw [hD']
    simp [this]
  | some t =>
    obtain ⟨l, el, htm⟩ := O.giv.listed i t eg
    obtain ⟨ti, eti⟩ : ∃ ti, ts[i]? = some ti := ⟨_, List.getElem?_eq_getElem (by omega)⟩
    obtain ⟨l', el', htl⟩ := paired_get hF eti
    rw [el] at el'
    cases el'
    have htl' := htl.xo hx (fun z => z)
    have hplace : place ls i t = l.idxOf t := by unfold place; rw [List.getD_eq_getElem?_getD, el]; rfl
    obtain ⟨j1, j2, j3⟩ := ix_nats htm
    have hat : at' ls g p i = decide (l.idxOf t = p) := by unfold at'; rw [gi]; show decide (place ls i t = p) = _; rw [hplace]
    refine iteT ?_
    refine ⟨_, s0, _, s5, a, _, _, .ref ti, rfl, rfl, hx.sL O.L, atI_nat (by rw [List.getElem?_map, eti]; rfl), ti, _, rfl, htl', _, s1, _, s5, g0, _, _, _, rfl, rfl, hx.sT O.G, atI_nat egk, htl'.sq, l.idxOf t, _, rfl, flat_nats _, j1, j2, j3, _, s4, rfl, _, rfl, ?_⟩
    have hd : decide (V.int ((l.idxOf t : Nat) : Int) = iv p) = decide (l.idxOf t = p) := by
      by_cases h : l.idxOf t = p
      · rw [h]
        simp
      · rw [decide_eq_false h]
        refine decide_eq_false fun z => h ?_
        have : ((l.idxOf t : Nat) : Int) = (p : Int) := V.int.inj z
        omega
    dsimp only
    rw [hd, ← hat]
    by_cases h : at' ls g p i = true
    · rw [h]
      refine iteT ⟨_, s5, _, hD', by rw [List.length_map, sizeLine_eq]; omega, hx.mut (.inl hD) (by rw [hD']; exact Soft.lst), ?_⟩
      rw [upd_same, List.filter_cons, if_pos h, List.map_append]
      rfl
    · have h' : at' ls g p i = false := by simpa using h
      rw [h']
      refine iteF ⟨hx, ?_⟩
      rw [hD']
      simp [h']
theorem cb1 {r : List V → Hp → VK → Prop} {te : TE} {σ : L2.St} {H : Hp} {Q : VK} (h : te σ H fun v H1 => r [v] H1 Q) : tCB r (tCons te tNil) σ H Q := h
theorem ok_lprof {f : Addr} {fd : FuncData} (F : Fun K "_law_profile" "_law_profile" sLProfile f fd) (B : Blt mg) : FnOk P w K mg base CX0 1 f fd ["_law_lists", "_law_given"] (spLProf K T) := by
  refine F.ok scLProf (fun vs H Q E h => ?_) (fun cdv A outer s H vs Q E hr h => ?_)
  · obtain ⟨a, g0, ts, ls, g, rfl, _⟩ := h
    rfl
  · obtain ⟨a, g0, ts, ls, g, rfl, O, hne, hLF, q⟩ := h
    refine ⟨_, pss_cons (ps_set (i := 3) scLProf.nd rfl (Or.inl rfl) (pe_callB (cr_max rfl) (by rfl) B.max PyProof.Rows.boot_max (pa_cons (pe_lc (own := [("_law_order", 2)]) (g := gName 2) (tt := tYes) (te := tCB (rLen K) (tCons (tVar 2) tNil)) rfl scLProf.nd (pi_list (pv 0)) (blkOk_by (N := lpN) (sc := defScope sLProfile) (by decide +kernel))
          (fun _ _ _ _ _ => pg_name (i := 2) scLProf.nd rfl (Or.inl rfl)) (fun _ _ _ _ _ => pts_nil) (fun _ _ _ _ _ => pe_callB call_len_seq (by rfl) B.len PySem.boot_len (pa_cons (pv 2) pa_nil))) pa_nil)))
      (pss_one (ps_ret (pe_callTy call_tuple_of (by rfl) B.tuple (by decide +kernel) (pa_cons (pe_lc (own := [("_law_place", 4)]) (g := gName 4) (tt := tYes) (te := tCB (rLen K) (tCons (tAt K) tNil)) rfl scLProf.nd (pi_range1 (by rfl) B.range (pa_cons (pv 3) pa_nil)) (blkOk_by (N := lpN) (sc := defScope sLProfile) (by decide +kernel))
          (fun _ _ _ _ _ => pg_name (i := 4) scLProf.nd rfl (Or.inr rfl)) (fun _ _ _ _ _ => pts_nil)
          (fun _ _ _ _ _ => pe_callB call_len_seq (by rfl) B.len PySem.boot_len (pa_cons (pe_lc (own := [("_law_k", 5)]) (g := gName 5) rfl scLProf.nd (pi_range1 (by rfl) B.range (pa_cons (pe_callB call_len_seq (by rfl) B.len PySem.boot_len (pa_cons (pv 0) pa_nil)) pa_nil)) (blkOk_by (own := [("_law_k", 5)]) (N := lpN) (sc := scL1) (scope := scL2) (by decide +kernel))
              (fun _ _ _ _ _ => pg_name (i := 5) scLProf.nd rfl (Or.inl rfl)) (fun _ _ _ _ _ => pts_one (PW.pt (pw_and (pt_cmpR op_notN (pe_ix ix_tup (pv 1) (pv 5) (fun _ _ => rfl)) pe_non (nomark _)) (pw_and1 (pt_cmpR op_eq (pe_tix (pe_ix ix_list (pv 0) (pv 5) (fun _ _ => rfl)) (pe_ix ix_tup (pv 1) (pv 5) (fun _ _ => rfl))) (pv 4) (nomark _))))))
              (fun _ _ _ _ _ => pv 5)) pa_nil))) pa_nil)))), ?_⟩
    unfold tSeq tAsg
    have hl50 : longest ls ≤ 50 := longest_le O.long
    refine cb1 ?_
    refine rd_lens (T := T) (K := K) (σ := L2.start lpN [.ref a, .ref g0]) (s := 0) (j := 2) O.L O.hls O.len rfl (fun x => ⟨rfl, rfl⟩) fun H1 D x1 hD => ?_
    refine ⟨D, _, rfl, SqL.of hD, by rw [List.length_map]; exact List.length_pos_iff.mpr hne, fun mx hm hmx => ?_⟩
    rw [longest_int hm hmx]
    refine ⟨_, rfl, _, rfl, by omega, by omega, ?_⟩
    rw [Int.toNat_natCast]
    refine fun D2 hD2 => lc_range (lo := 0) (n := longest ls) (fun i H' => Xo T nM H1 H' ∧ H' D2 = some (.lst (fl (fun p => .int (cnt ls g p)) i))) ⟨Xo.new1 hD2, upd_same⟩ (fun i H' hi ⟨hx, hF⟩ => ?_) (fun H' ⟨hx, hF⟩ => ?_)
    · rw [Int.zero_add]
      refine ⟨rfl, ?_⟩
      unfold tYes
      dsimp only
      rw [if_pos (rfl : true = true)]
      refine cb1 ?_
      refine rd_at (T := T) (K := K) (p := i) ((O.xo x1).xo hx) ((hLF.xo x1).xo hx) rfl (fun x => ⟨rfl, rfl, rfl, rfl, rfl⟩) fun H2 D3 y hD3 => ?_
      have hF2 := y.lst hF (fun z => z)
      refine ⟨D3, _, rfl, .inl (SqL.of hD3), _, hF2, by rw [fl_len, sizeLine_eq]; omega, (hx.trans y).mut (.inl hD2) (by rw [hF2]; exact Soft.lst), ?_⟩
      rw [upd_same, fl_snoc, List.length_map, at_cnt]
      rfl
    · refine ⟨D2, _, rfl, .inl ⟨SqL.of hF, fun t ht => ?_⟩⟩
      refine q _ t ((x1.trans hx).new ht) ?_
      rw [upd_same]
      unfold prof fl
      rw [List.map_map]
      rfl
end
end G3

set_option Elab.async false
set_option linter.all false
set_option maxRecDepth 100000
set_option maxHeartbeats 4000000
namespace G3
open PySem PySem.Spec PyProof.Rows L2
/-! ### the law: its text -/
abbrev lwN : List Str := ["_law_script", "_law_dice_here", "_law_lists", "_law_every", "_law_first", "_law_last", "_law_least", "_law_one", "_law_counts", "_law_most_now", "_law_turned_now", "_law_sums", "_law_k", "_law_many", "_law_place"]
theorem scLaw : FnScope lwN ["_law_script"] (defScope sLaw) := ⟨rfl, rfl, rfl, by decide +kernel, rfl, by decide +kernel, by decide +kernel⟩
def rIxD (P : Program) (w : World) (K : PySem.W.Frag) : R2 := fun x y H Q => ∃ (d b : Addr) (R : List (Option Nat) → V → Prop) (S : List (List (Option Nat))) (g : List (Option Nat)), x = .ref d ∧ y = .ref b ∧ DG P w K H d R S ∧ g ∈ S ∧ SqT K H b (g.map keyV) ∧ ∀ v, R g v → Q v H
theorem ix_dgk {X : Cx} {k : Nat} (hr : Room k X.A) : IxR X (rIxD X.prog X.w X.K) := ix_dg hr
def rDctG (P : Program) (w : World) (K : PySem.W.Frag) : List V → Hp → VK → Prop := fun vs H Q => ∃ (a : Addr) (ps : List Addr) (ks : List (Addr × List (Option Nat) × V)), vs = [.ref a] ∧ SqL K H a (ps.map V.ref) ∧
  Paired (fun p k => SqT K H p [.ref k.1, k.2.2] ∧ SqT K H k.1 (k.2.1.map keyV)) ps ks ∧
  ∀ p φ, H p = none → DG P w K (upd H p (.ext φ)) p (fun g v => ∃ k ∈ ks, k.2.1 = g ∧ k.2.2 = v) (ks.map (·.2.1)) → Q (.ref p) (upd H p (.ext φ))
theorem call_dctG {X : Cx} {k : Nat} (hr : Room k X.A) : CallR X (.type "dict") (rDctG X.prog X.w X.K) := call_dictG hr
/-- a def as it is called -/
def Cal (P : Program) (w : World) (K : PySem.W.Frag) (mg : Str → Option Value) (base : Heap) (x : Str) (n : Nat) (ps : List Str) (sp : Sp) : Prop := ∃ f fd, FnOk P w K mg base CX0 n f fd ps sp ∧ PySem.W.keepIn K (.ref f) = true ∧ Binds K fd ps [] ∧ mg x = some (.ref f)
structure Lw (P : Program) (w : World) (K : PySem.W.Frag) (mg : Str → Option Value) (base : Heap) (T : TbA) : Prop where
  rounds : Cal P w K mg base "_law_rounds" 2 ["_law_script", "_law_most_now"] (spRounds K T)
  roll : Cal P w K mg base "_law_roll" 1 ["_law_dice_here", "_law_many"] (spRoll K T)
  list : Cal P w K mg base "_law_list" 2 ["_law_dice_here", "_law_many"] (spList K T)
  givings : Cal P w K mg base "_law_givings" 2 ["_law_lists"] (spGivings K T)
  lprof : Cal P w K mg base "_law_profile" 1 ["_law_lists", "_law_given"] (spLProf K T)
  firsts : Cal P w K mg base "most_firsts" 5 ["lists", "many"] (spKind K T w1)
  lasts : Cal P w K mg base "fewest_lasts" 5 ["lists", "many"] (spKind K T w2)
  least : Cal P w K mg base "least_sum" 5 ["lists", "many"] (spKind K T w3)
  prof : Cal P w K mg base "profile" 1 ["lists", "given"] (spProfile K T)
  rev : Cal P w K mg base "reversed_profile" 2 ["lists", "given"] (spRev K T)
  places : Cal P w K mg base "sum_of_places" 1 ["lists", "given"] (spPlaces K T)
  many : Cal P w K mg base "how_many" 1 ["given"] (spMany K T)
  weights : Cal P w K mg base "weights" 1 ["count", "base", "up"] (spWeights T)
abbrev tLists (K : PySem.W.Frag) (T : TbA) : TE := tLc (iRng1 (tCons (tOp (rI0 fun i j => .int (i + j)) (tC (.int 1)) (tCall (spRoll K T) [] E0 (tCons (tVar 1) (tCons (tC (.int 4)) tNil)))) tNil)) (gName 12) tYes (tCall (spList K T) [] E0 (tCons (tVar 1) (tCons (tC (.int 3)) tNil))) [12]
abbrev tEvery (K : PySem.W.Frag) (tt : TT) (te : TE) : TE := tLc (iList K (tVar 3)) (gName 7) tt te [7]
abbrev tCnt (P : Program) (w : World) (K : PySem.W.Frag) (i j : Nat) : TE := tOp (rIxD P w K) (tVar i) (tVar j)
abbrev tSumC (P : Program) (w : World) (K : PySem.W.Frag) (j : Nat) : TE := tCB (rSumT K) (tCons (tCnt P w K 8 j) tNil)
abbrev tMost (P : Program) (w : World) (K : PySem.W.Frag) : TT := tTest (tOp rEq (tSumC P w K 7) (tVar 9))
abbrev tPr (te : TE) : TE := tTup (tCons (tVar 7) (tCons te tNil))
abbrev rTupOf (K : PySem.W.Frag) : List V → Hp → VK → Prop := fun xs H Q => ∃ p ys, xs = [.ref p] ∧ ((SqL K H p ys ∧ ∀ l, H l = none → Q (.ref l) (upd H l (.tup ys))) ∨ (SqT K H p ys ∧ Q (.ref p) H))
abbrev teProf (K : PySem.W.Frag) (T : TbA) : TE := tCall (spLProf K T) [] E0 (tCons (tVar 2) (tCons (tVar 7) tNil))
abbrev teTurn (P : Program) (w : World) (K : PySem.W.Frag) : TE := tCB (rTupOf K) (tCons (tNegR K (tCnt P w K 8 7) 13) tNil)
abbrev teSum (P : Program) (w : World) (K : PySem.W.Frag) : TE := tCB (rSum K) (tCons (tLc (iRng1 (tCons (tCB (rLen K) (tCons (tCnt P w K 8 7) tNil)) tNil)) (gName 14) tYes (tOp (rI CMul fun i j => .int (i * j)) (tVar 14) (tOp (rIxT K) (tCnt P w K 8 7) (tVar 14))) [14]) tNil)
abbrev scT1 : Scope := { kind := .function, names := [(".0", .local), ("_law_one", .local), ("tuple", .globalImplicit), ("reversed", .globalImplicit), ("_law_counts", .cell)], isGenerator := false, isCoroutine := false, more := [] }
abbrev scT2 : Scope := { kind := .function, names := [(".0", .local), ("_law_many", .local)], isGenerator := false, isCoroutine := false, more := [] }
abbrev scS1 : Scope := { kind := .function, names := [(".0", .local), ("_law_one", .cell), ("sum", .globalImplicit), ("range", .globalImplicit), ("len", .globalImplicit), ("_law_counts", .cell)], isGenerator := false, isCoroutine := false, more := [] }
abbrev scS2 : Scope := { kind := .function, names := [(".0", .local), ("_law_place", .local), ("_law_counts", .free), ("_law_one", .free)], isGenerator := false, isCoroutine := false, more := [] }
def spLaw (K : PySem.W.Frag) (T : TbA) : Sp := fun vs H Q _ => ∃ (a : Addr) (ns : List Int), vs = [.ref a] ∧ SqL K H a (ns.map V.int) ∧ Tb T H ∧ ∀ H', Q (.bl true) H'
end G3

set_option Elab.async false
set_option linter.all false
set_option maxRecDepth 100000
set_option maxHeartbeats 2000000
namespace G3
open PySem PySem.Spec PyProof.Rows L2
/-! ### the law: its readings -/
section
variable {P : Program} {w : World} {K : PySem.W.Frag} {mg : Str → Option Value} {base : Heap} {T : TbA}
/-- what a value says of a giving, whatever else is made -/
structure VOk (T : TbA) (VR : Hp → List (Option Nat) → V → Prop) : Prop where
  x : ∀ {H H' g v}, Xo T nM H H' → VR H g v → VR H' g v
  l : ∀ {H : Hp} {D xs ys g v}, H D = some (.lst xs) → VR H g v → VR (upd H D (.lst ys)) g v
theorem rd_comp {σ : L2.St} {H : Hp} {e : Addr} {qs : List Addr} {gs : List (List (Option Nat))} {Q : VK} {tt : TT} {te : TE} {VR : Hp → List (Option Nat) → V → Prop} {tb : List (Option Nat) → Bool} (hV : VOk T VR)
    (h3 : σ[3]? = some (some (.ref e))) (hE : H e = some (.lst (qs.map V.ref))) (hG : Givs K H qs gs) (hz : gs.length ≤ 1000) (hw : ∀ x : V, wipe ((wipe σ [7]).set 7 (some x)) [7] = wipe σ [7])
    (htt : ∀ (H1 : Hp) (q : Addr) (g : List (Option Nat)) (Q' : Bool → Hp → Prop), Xo T nM H H1 → g ∈ gs → SqT K H1 q (g.map keyV) → Q' (tb g) H1 → tt ((wipe σ [7]).set 7 (some (.ref q))) H1 Q')
    (hte : ∀ (H1 : Hp) (q : Addr) (g : List (Option Nat)) (Q' : VK), Xo T nM H H1 → g ∈ gs → SqT K H1 q (g.map keyV) → (∀ H2 v, Xo T nM H1 H2 → VR H2 g v → Q' v H2) → te ((wipe σ [7]).set 7 (some (.ref q))) H1 Q')
    (q : ∀ H' D vs, Xo T nM H H' → H' D = some (.lst vs) → Paired (fun v g => VR H' g v) vs (gs.filter tb) → Q (.ref D) H') : tEvery K tt te σ H Q := by
  refine ⟨_, h3, e, rfl, ⟨_, SqL.of hE⟩, fun D hD => lc_list (K := K) (a := e) (xs := qs.map V.ref) (fun i H' => ∃ vs : List V, Xo T nM H H' ∧ H' D = some (.lst vs) ∧ Paired (fun v g => VR H' g v) vs ((gs.take i).filter tb))
    ⟨[], Xo.new1 hD, upd_same, .nil⟩ (fun i H' _ ⟨_, x, _⟩ => x.sL (SqL.of hE)) (fun i x H' hi ⟨vs, hx, hF, hp⟩ => ?_) (fun H' ⟨vs, hx, hF, hp⟩ => ?_)⟩
  · rw [List.getElem?_map] at hi
    cases eq : qs[i]? with
    | none => rw [eq] at hi; cases hi
    | some r =>
      rw [eq] at hi
      obtain rfl : V.ref r = x := Option.some.inj hi
      obtain ⟨g, eg, hg⟩ := paired_get hG eq
      have hgm := List.mem_of_getElem? eg
      have hlen : vs.length ≤ 1000 := by
        have e1 := Paired.length hp
        have e2 := List.length_filter_le tb (gs.take i)
        rw [List.length_take] at e2
        omega
      refine ⟨hw _, htt H' r g _ hx hgm (hx.sT hg) ?_⟩
      rw [List.take_add_one, eg, List.filter_append]
      by_cases ht : tb g = true
      · rw [ht]
        refine iteT (hte H' r g _ hx hgm (hx.sT hg) fun H2 v y hv => ?_)
        have hF2 := y.lst hF (fun z => z)
        refine ⟨_, hF2, by rw [sizeLine_eq]; omega, vs ++ [v], (hx.trans y).mut (.inl hD) (by rw [hF2]; exact Soft.lst), upd_same, ?_⟩
        have : List.filter tb (some g).toList = [g] := by simp [ht]
        rw [this]
        exact (Paired.mapP hp fun a b z => hV.l hF2 (hV.x y z)).snoc (hV.l hF2 hv)
      · have ht' : tb g = false := by simpa using ht
        rw [ht']
        refine iteF ⟨vs, hx, hF, ?_⟩
        have : List.filter tb (some g).toList = [] := by simp [ht']
        rw [this, List.append_nil]
        exact hp
  · have hlen : qs.length = gs.length := Paired.length hG
    rw [List.length_map, hlen, List.take_of_length_le (Nat.le_refl _)] at hp
    exact q H' D vs hx hF hp
/-- a pair (one, value) -/
def vrP (K : PySem.W.Frag) (VR : Hp → List (Option Nat) → V → Prop) : Hp → List (Option Nat) → V → Prop := fun H g v => ∃ p q u, v = .ref p ∧ SqT K H p [.ref q, u] ∧ SqT K H q (g.map keyV) ∧ VR H g u
theorem VOk.pair {VR : Hp → List (Option Nat) → V → Prop} (h : VOk T VR) : VOk T (vrP K VR) :=
  ⟨fun x ⟨p, q, u, e, h1, h2, h3⟩ => ⟨p, q, u, e, x.sT h1, x.sT h2, h.x x h3⟩, fun hD ⟨p, q, u, e, h1, h2, h3⟩ => ⟨p, q, u, e, SqT.setL h1 hD, SqT.setL h2 hD, h.l hD h3⟩⟩
theorem pairs_ks {H : Hp} {VR : Hp → List (Option Nat) → V → Prop} : ∀ {vs : List V} {gs : List (List (Option Nat))}, Paired (fun v g => vrP K VR H g v) vs gs →
    ∃ (ps : List Addr) (ks : List (Addr × List (Option Nat) × V)), vs = ps.map V.ref ∧ Paired (fun p (k : Addr × List (Option Nat) × V) => SqT K H p [.ref k.1, k.2.2] ∧ SqT K H k.1 (k.2.1.map keyV)) ps ks ∧ (∀ k ∈ ks, VR H k.2.1 k.2.2) ∧ ks.map (·.2.1) = gs
  | _, _, .nil => ⟨[], [], rfl, .nil, (fun _ h => nomatch h), rfl⟩
  | _, _, .cons (b := g) h t => by
    obtain ⟨p, q, u, rfl, h1, h2, h3⟩ := h
    obtain ⟨ps, ks, rfl, hp, hv, e⟩ := pairs_ks t
    refine ⟨p :: ps, (q, g, u) :: ks, rfl, .cons ⟨h1, h2⟩ hp, fun k hk => ?_, by rw [List.map_cons, e]⟩
    rcases List.mem_cons.mp hk with rfl | hk
    · exact h3
    · exact hv k hk
/-- dict([(one, e) for one in every]) -/
theorem rd_dct {σ : L2.St} {H : Hp} {e : Addr} {qs : List Addr} {gs : List (List (Option Nat))} {Q : VK} {te : TE} {VR : Hp → List (Option Nat) → V → Prop} (hV : VOk T VR)
    (h3 : σ[3]? = some (some (.ref e))) (hE : H e = some (.lst (qs.map V.ref))) (hG : Givs K H qs gs) (hz : gs.length ≤ 1000) (hw : ∀ x : V, wipe ((wipe σ [7]).set 7 (some x)) [7] = wipe σ [7]) (h7 : ∀ x : V, ((wipe σ [7]).set 7 (some x))[7]? = some (some x))
    (hte : ∀ (H1 : Hp) (q : Addr) (g : List (Option Nat)) (Q' : VK), Xo T nM H H1 → g ∈ gs → SqT K H1 q (g.map keyV) → (∀ H2 v, Xo T nM H1 H2 → VR H2 g v → Q' v H2) → te ((wipe σ [7]).set 7 (some (.ref q))) H1 Q')
    (q : ∀ H' p, Xo T nM H H' → DG P w K H' p (VR H') gs → Q (.ref p) H') : tCB (rDctG P w K) (tCons (tEvery K tYes (tPr te)) tNil) σ H Q := by
  refine cb1 ?_
  refine rd_comp (T := T) (K := K) (tb := fun _ => true) (VR := vrP K VR) hV.pair h3 hE hG hz hw (fun H1 q g Q' _ _ _ h => h) (fun H1 q0 g Q' x hgm hg hq => ?_) (fun H' D vs x hF hp => ?_)
  · refine ⟨_, h7 _, hte H1 q0 g _ x hgm hg fun H2 v y hv => ⟨by show 2 ≤ sizeLine; decide, fun p hp => ?_⟩⟩
    have y2 := Xo.new1 (T := T) (M := nM) (o := .tup [.ref q0, v]) hp
    exact hq _ _ (y.trans y2) ⟨p, q0, v, rfl, SqT.of upd_same, y2.sT (y.sT hg), hV.x y2 hv⟩
  · have ef : gs.filter (fun _ => true) = gs := by simp
    rw [ef] at hp
    obtain ⟨ps, ks, rfl, hpp, hv, ek⟩ := pairs_ks hp
    refine ⟨D, ps, ks, rfl, SqL.of hF, hpp, fun p φ hp0 hd => ?_⟩
    have y := Xo.new1 (T := T) (M := nM) (o := .ext φ) hp0
    rw [ek] at hd
    exact q _ p (x.trans y) (hd.mono (fun _ h => h) (fun _ _ h => h) fun g v ⟨k, hk, e1, e2⟩ => by rw [← e1, ← e2]; exact hV.x y (hv k hk))
/-- d[one] -/
theorem rd_ix {σ : L2.St} {H : Hp} {i j : Nat} {d q : Addr} {g : List (Option Nat)} {gs : List (List (Option Nat))} {R : List (Option Nat) → V → Prop} {Q : VK} (hi : σ[i]? = some (some (.ref d))) (hj : σ[j]? = some (some (.ref q))) (hd : DG P w K H d R gs) (hg : g ∈ gs) (hq : SqT K H q (g.map keyV))
    (h : ∀ v, R g v → Q v H) : tCnt P w K i j σ H Q := ⟨_, hi, _, hj, d, q, R, gs, g, rfl, rfl, hd, hg, hq, h⟩
/-- a tuple of ints -/
def vrL (f : List (Option Nat) → List Int) : Hp → List (Option Nat) → V → Prop := fun H g v => ∃ t, v = .ref t ∧ H t = some (.tup ((f g).map V.int))
abbrev trn (ls : List (List Nat)) (g : List (Option Nat)) : List Int := (prof ls g).reverse.map fun x => 0 - x
def vrI (f : List (Option Nat) → Int) : Hp → List (Option Nat) → V → Prop := fun _ g v => v = .int (f g)
theorem vokL {f : List (Option Nat) → List Int} : VOk T (vrL f) := ⟨fun x ⟨t, e, h⟩ => ⟨t, e, x.keep t _ h (fun z => z) fun ps z => by cases z⟩, fun hD ⟨t, e, h⟩ => ⟨t, e, by rw [upd_ne (fun z => by rw [z, hD] at h; cases h)]; exact h⟩⟩
theorem vokI {f : List (Option Nat) → Int} : VOk T (vrI f) := ⟨fun _ h => h, fun _ h => h⟩
/-- sum(counts[one]) -/
theorem rd_sumC {σ : L2.St} {H : Hp} {j : Nat} {d q : Addr} {ls : List (List Nat)} {g : List (Option Nat)} {gs : List (List (Option Nat))} {Q : VK} (hi : σ[8]? = some (some (.ref d))) (hj : σ[j]? = some (some (.ref q))) (hd : DG P w K H d (vrL (prof ls) H) gs) (hg : g ∈ gs) (hq : SqT K H q (g.map keyV))
    (h : Q (.int (prof ls g).sum) H) : tSumC P w K j σ H Q := by
  refine cb1 (rd_ix hi hj hd hg hq fun v hv => ?_)
  obtain ⟨t, rfl, ht⟩ := hv
  exact ⟨t, _, rfl, SqT.of ht, h⟩
/-- the lists -/
theorem rd_lists {σ : L2.St} {H : Hp} {d : Addr} {x y z : Int} {Q : VK} (h1 : σ[1]? = some (some (.ref d))) (hD : H d = some (dc x y z)) (hw : ∀ x : V, ((wipe σ [12]).set 12 (some x))[1]? = some (some (.ref d)) ∧ wipe ((wipe σ [12]).set 12 (some x)) [12] = wipe σ [12])
    (q : ∀ H' D x y z ts ls, Xo T (fun b => b = d) H H' → D ≠ d → H' d = some (dc x y z) → H' D = some (.lst (ts.map V.ref)) → LsF H' ts ls → ls ≠ [] → ls.length ≤ 4 → (∀ l ∈ ls, l.Nodup ∧ (∀ t ∈ l, t < 3) ∧ l.length ≤ 3) → Q (.ref D) H') : tLists K T σ H Q := by
  refine ⟨_, h1, d, 4, x, y, z, rfl, by decide, by decide, hD, fun H1 x1 y1 z1 r xo hd1 hr => ⟨1, (r : Nat), rfl, rfl, _, rfl, by omega, by omega, ?_⟩⟩
  have en : ((1 : Int) + (r : Nat)).toNat = r + 1 := by omega
  rw [en]
  refine fun D hDn => lc_range (lo := 0) (n := r + 1) (fun i H' => ∃ (x y z : Int) (ts : List Addr) (ls : List (List Nat)), Xo T (fun b => b = d) H1 H' ∧ H' d = some (dc x y z) ∧ H' D = some (.lst (ts.map V.ref)) ∧ (∀ t ∈ ts, t ≠ D ∧ t ≠ d) ∧ LsF H' ts ls ∧ ls.length = i ∧ (∀ l ∈ ls, l.Nodup ∧ (∀ t ∈ l, t < 3) ∧ l.length ≤ 3))
    ⟨x1, y1, z1, [], [], Xo.new1 hDn, by rw [upd_ne (ne_of_none hd1 hDn)]; exact hd1, upd_same, (fun _ h => nomatch h), .nil, rfl, (fun _ h => nomatch h)⟩ (fun i H' hi ⟨x, y, z, ts, ls, hx, hd, hF, hne, hL, hl, hok⟩ => ?_) (fun H' ⟨x, y, z, ts, ls, hx, hd, hF, hne, hL, hl, hok⟩ => ?_)
  · obtain ⟨s1, sw⟩ := hw (.int (0 + (i : Nat)))
    refine ⟨sw, _, s1, d, 3, x, y, z, rfl, by decide, hd, fun H2 x2 y2 z2 t l xo2 hd2 ht0 ht hnd hlt hll => ?_⟩
    have hDd : D ≠ d := fun e => by rw [e, hd1] at hDn; cases hDn
    have hF2 := xo2.lst hF hDd
    have htD : t ≠ D := fun e => by rw [e, hF] at ht0; cases ht0
    have htd : t ≠ d := fun e => by rw [e, hd] at ht0; cases ht0
    have hlen : ts.length = ls.length := Paired.length hL
    have hset : ∀ (a : Addr) (xs : List V), a ≠ D → FrT H2 a xs → FrT (upd H2 D (.lst (ts.map V.ref ++ [.ref t]))) a xs := fun a xs ha ⟨ob, h1, h2⟩ => ⟨ob, h1, by rw [upd_ne ha]; exact h2⟩
    have hL2 : LsF (upd H2 D (.lst (ts.map V.ref ++ [.ref t]))) ts ls := by
      have key : ∀ {ts : List Addr} {ls : List (List Nat)}, LsF H' ts ls → (∀ t ∈ ts, t ≠ D ∧ t ≠ d) → LsF (upd H2 D (.lst (V.ref D :: [V.ref t]))) ts ls ∧ LsF H2 ts ls := by
        intro ts ls h
        induction h with
        | nil => exact fun _ => ⟨.nil, .nil⟩
        | cons h t ih =>
          intro hn
          obtain ⟨n1, n2⟩ := hn _ List.mem_cons_self
          obtain ⟨i1, i2⟩ := ih fun t ht => hn t (List.mem_cons_of_mem _ ht)
          have hh := h.xo xo2 n2
          refine ⟨.cons ?_ i1, .cons hh i2⟩
          obtain ⟨ob, h1, h2⟩ := hh
          exact ⟨ob, h1, by rw [upd_ne n1]; exact h2⟩
      have key2 : ∀ {ts : List Addr} {ls : List (List Nat)} (u : HO), LsF H2 ts ls → (∀ t ∈ ts, t ≠ D ∧ t ≠ d) → LsF (upd H2 D u) ts ls := by
        intro ts ls u h
        induction h with
        | nil => exact fun _ => .nil
        | cons h t ih =>
          intro hn
          obtain ⟨ob, h1, h2⟩ := h
          exact .cons ⟨ob, h1, by rw [upd_ne (hn _ List.mem_cons_self).1]; exact h2⟩ (ih fun t ht => hn t (List.mem_cons_of_mem _ ht))
      exact key2 _ (key hL hne).2 hne
    refine ⟨_, hF2, by rw [List.length_map, sizeLine_eq]; omega, x2, y2, z2, ts ++ [t], ls ++ [l], (hx.trans xo2).mut (.inl hDn) (by rw [hF2]; exact Soft.lst), by rw [upd_ne hDd.symm]; exact hd2, by rw [upd_same, List.map_append]; rfl, ?_, hL2.snoc (hset t _ htD ht), by rw [List.length_append, List.length_singleton, hl], ?_⟩
    · intro a ha
      rcases List.mem_append.mp ha with ha | ha
      · exact hne a ha
      · rw [List.mem_singleton.mp ha]
        exact ⟨htD, htd⟩
    · intro a ha
      rcases List.mem_append.mp ha with ha | ha
      · exact hok a ha
      · rw [List.mem_singleton.mp ha]
        exact ⟨hnd, hlt, hll⟩
  · have hDd : D ≠ d := fun e => by rw [e, hd1] at hDn; cases hDn
    exact q H' D x y z ts ls (xo.trans hx) hDd hd hF hL (fun e => by rw [e] at hl; cases hl) (by omega) hok
def toI : V → Int
  | .int i => i
  | _ => 0
def kyOf (H : Hp) (p : Addr) : List Int := match H p with
  | some (.tup xs) => xs.map toI
  | _ => []
theorem kyOf_eq {H : Hp} {p : Addr} {ns : List Int} (h : H p = some (.tup (ns.map V.int))) : kyOf H p = ns := by
  unfold kyOf
  rw [h]
  show (ns.map V.int).map toI = ns
  rw [List.map_map]
  have : (toI ∘ V.int) = id := rfl
  rw [this, List.map_id]
theorem lexLt_lexL : ∀ p q : List Int, HT.lexLt p q = lexL p q
  | [], [] => rfl
  | [], _ :: _ => rfl
  | _ :: _, [] => rfl
  | x :: xs, y :: ys => by
    show (if x = y then HT.lexLt xs ys else decide (x < y)) = if x = y then lexL xs ys else decide (x < y)
    rw [lexLt_lexL xs ys]
theorem refs_pair {H : Hp} {f : List (Option Nat) → List Int} : ∀ {vs : List V} {gs : List (List (Option Nat))}, Paired (fun v g => vrL f H g v) vs gs → ∃ ps : List Addr, vs = ps.map V.ref ∧ Paired (fun p g => H p = some (.tup ((f g).map V.int))) ps gs
  | _, _, .nil => ⟨[], rfl, .nil⟩
  | _, _, .cons h t => by
    obtain ⟨p, rfl, h⟩ := h
    obtain ⟨ps, rfl, t2⟩ := refs_pair t
    exact ⟨p :: ps, rfl, .cons h t2⟩
theorem ints_pair {H : Hp} {f : List (Option Nat) → Int} : ∀ {vs : List V} {gs : List (List (Option Nat))}, Paired (fun v g => vrI f H g v) vs gs → vs = (gs.map f).map V.int
  | _, _, .nil => rfl
  | _, _, .cons h t => by
    rw [List.map_cons, List.map_cons, ← ints_pair t]
    exact congrArg (· :: _) h
theorem pair_l {α β : Type} {F : α → β → Prop} : ∀ {xs : List α} {ys : List β}, Paired F xs ys → ∀ {x : α}, x ∈ xs → ∃ y ∈ ys, F x y
  | _, _, .nil, _, h => by cases h
  | _, _, .cons h t, x, hx => by
    rcases List.mem_cons.mp hx with rfl | hx
    · exact ⟨_, List.mem_cons_self, h⟩
    · obtain ⟨y, hy, f⟩ := pair_l t hx
      exact ⟨y, List.mem_cons_of_mem _ hy, f⟩
theorem pair_r {α β : Type} {F : α → β → Prop} : ∀ {xs : List α} {ys : List β}, Paired F xs ys → ∀ {y : β}, y ∈ ys → ∃ x ∈ xs, F x y
  | _, _, .nil, _, h => by cases h
  | _, _, .cons h t, y, hy => by
    rcases List.mem_cons.mp hy with rfl | hy
    · exact ⟨_, List.mem_cons_self, h⟩
    · obtain ⟨x, hx, f⟩ := pair_r t hy
      exact ⟨x, List.mem_cons_of_mem _ hx, f⟩
/-- max of a list of tuples -/
theorem max_of {H : Hp} {D : Addr} {vs : List V} {gs : List (List (Option Nat))} {f : List (Option Nat) → List Int} {n : Nat} {Q : VK} (hD : H D = some (.lst vs)) (hp : Paired (fun v g => vrL f H g v) vs gs) (hne : gs ≠ []) (hn : ∀ g ∈ gs, (f g).length = n)
    (q : ∀ p g, g ∈ gs → H p = some (.tup ((f g).map V.int)) → (∀ g' ∈ gs, lexL (f g) (f g') = false) → Q (.ref p) H) : rMaxT K [.ref D] H Q := by
  obtain ⟨ps, rfl, hpp⟩ := refs_pair hp
  have hl := Paired.length hpp
  refine ⟨D, ps, kyOf H, n, rfl, SqL.of hD, fun e => hne ?_, fun p hpm => ?_, fun p hpm hmx => ?_⟩
  · rw [e] at hl
    exact List.length_eq_zero_iff.mp hl.symm
  · obtain ⟨g, e2, h⟩ := pair_l hpp hpm
    rw [kyOf_eq h]
    exact ⟨SqT.of h, hn g e2⟩
  · obtain ⟨g, e2, h⟩ := pair_l hpp hpm
    refine q p g e2 h fun g' hg' => ?_
    obtain ⟨p', ep', h'⟩ := pair_r hpp hg'
    have := hmx p' ep'
    rw [kyOf_eq h, kyOf_eq h', lexLt_lexL] at this
    exact this
/-- two tuples of ints, alike -/
theorem ne_same {H : Hp} {t1 t2 : Addr} {ns ms : List Int} {Q : VK} (h1 : SqT K H t1 (ns.map V.int)) (h2 : SqT K H t2 (ms.map V.int)) (e : ns = ms) (q : Q (.bl false) H) : rNeD K (.ref t1) (.ref t2) H Q := by
  subst e
  refine ⟨.tuple (ns.map PyData.int), .tuple (ns.map PyData.int), dp_tup h1 (flats_ints ns), dp_tup h2 (flats_ints ns), (flats_ints ns).shaped, (flats_ints ns).shaped, ?_⟩
  rw [tup_eqv (flats_ints ns) (flats_ints ns), decide_eq_true rfl]
  exact q
/-- what the law has when the lists stand -/
structure Lsn (ls : List (List Nat)) : Prop where
  ne : ls ≠ []
  len : ls.length ≤ 4
  ok : ∀ l ∈ ls, l.Nodup ∧ (∀ t ∈ l, t < 3) ∧ l.length ≤ 3
structure Ev (K : PySem.W.Frag) (T : TbA) (H : Hp) (d a e l : Addr) (ts : List Addr) (ls : List (List Nat)) (qs : List Addr) : Prop where
  L : H a = some (.lst (ts.map V.ref))
  F : LsF H ts ls
  E : H e = some (.lst (qs.map V.ref))
  G : Givs K H qs (givs ls)
  D : ∃ x y z, H d = some (dc x y z)
  tb : Tb T H
  R : H l = some (.lst [.ref d])
variable {H H' : Hp} {d a e l : Addr} {ts qs : List Addr} {ls : List (List Nat)}
theorem Ev.xo (v : Ev K T H d a e l ts ls qs) (x : Xo T nM H H') : Ev K T H' d a e l ts ls qs :=
  ⟨x.lst v.L (fun z => z), v.F.xo x, x.lst v.E (fun z => z), Paired.mapP v.G fun _ _ z => x.sT z, let ⟨i, j, k, h⟩ := v.D; ⟨i, j, k, x.lst h (fun z => z)⟩, x.tb v.tb, x.lst v.R (fun z => z)⟩
theorem Ev.prOk (v : Ev K T H d a e l ts ls qs) (n : Lsn ls) {q : Addr} {g : List (Option Nat)} (hg : g ∈ givs ls) (hq : SqT K H q (g.map keyV)) : PrOk K H a q ts ls g :=
  ⟨SqL.of v.L, Paired.mapP v.F fun _ _ z => z.sq, by have := n.len; omega, fun l hl => by have := (n.ok l hl).2.2; omega, hq, mem_givs.mp hg⟩
theorem Ev.lsOk (v : Ev K T H d a e l ts ls qs) (n : Lsn ls) : LsOk K H a ts ls 3 :=
  ⟨SqL.of v.L, Paired.mapP v.F fun _ _ z => z.sq, n.ne, fun l hl => ⟨(n.ok l hl).1, (n.ok l hl).2.1, by have := (n.ok l hl).2.2; omega⟩, by have := n.len; omega, by decide⟩
theorem Lsn.givs_len (n : Lsn ls) : (givs ls).length ≤ 256 := by
  have := G3.givs_len (fun l hl => (n.ok l hl).2.2) ls.length (Nat.le_refl _)
  rw [List.take_of_length_le (Nat.le_refl _)] at this
  exact Nat.le_trans this (Nat.le_trans (Nat.pow_le_pow_right (by decide) n.len) (by decide))
/-! the values -/
theorem rd_prof {σ : L2.St} {q : Addr} {g : List (Option Nat)} {Q : VK} (v : Ev K T H d a e l ts ls qs) (n : Lsn ls) (h2 : σ[2]? = some (some (.ref a))) (h7 : σ[7]? = some (some (.ref q))) (hg : g ∈ givs ls) (hq : SqT K H q (g.map keyV))
    (h : ∀ H2 v, Xo T nM H H2 → vrL (prof ls) H2 g v → Q v H2) : teProf K T σ H Q :=
  ⟨_, h2, _, h7, a, q, ts, ls, g, rfl, v.prOk n hg hq, n.ne, v.F, fun H2 t x ht => h H2 _ x ⟨t, rfl, ht⟩⟩
theorem prof_len50 (n : Lsn ls) {g : List (Option Nat)} : (prof ls g).length ≤ 50 := by
  rw [prof_len]
  exact longest_le fun l hl => by have := (n.ok l hl).2.2; omega
theorem rd_negR2 {K : PySem.W.Frag} {T : TbA} {σ : L2.St} {H H1 : Hp} {ns : List Int} {te : TE} {j : Nat} {Q : VK} (hte : ∀ R : V → Hp → Prop, (∀ a, SqT K H1 a (ns.map V.int) → R (.ref a) H1) → te σ H R) (hz : ns.length ≤ 1000) (hσ : ∀ x : V, ((wipe σ [j]).set j (some x))[j]? = some (some x) ∧ wipe ((wipe σ [j]).set j (some x)) [j] = wipe σ [j])
    (q : ∀ H' D, Xo T nM H1 H' → H1 D = none → H' D = some (.lst ((ns.reverse.map fun x => 0 - x).map V.int)) → Q (.ref D) H') : tNegR K te j σ H Q := by
  refine hte _ fun a hT => ⟨a, _, rfl, .inr ⟨hT, fun D hD => ?_⟩⟩
  refine lc_it (It0 := RT.ItvT K a (ns.map V.int).length) (n := ns.length) (fun i H' => Xo T nM H1 H' ∧ H' D = some (.lst (((ns.reverse.take i).map fun x => 0 - x).map V.int))) ⟨Xo.new1 hD, upd_same⟩
    (fun H' _ => by show (ns.map V.int).length ≤ ns.length; rw [List.length_map]; exact Nat.le_refl _) (fun i H' hi ⟨x, _⟩ => ⟨by rw [List.length_map]; exact hi, _, _, x.sT hT, List.getElem?_eq_getElem (by rw [List.length_map]; omega)⟩) (fun i x H' H2 hi ⟨y, hF⟩ yl => ?_) (fun H' ⟨y, hF⟩ => ?_)
  · obtain ⟨rfl, hget⟩ := yl
    have ex := hget _ (y.sT hT)
    rw [List.getElem?_map, List.length_map] at ex
    have er : ns.reverse[i]? = ns[ns.length - 1 - i]? := List.getElem?_reverse hi
    cases en : ns[ns.length - 1 - i]? with
    | none => rw [en] at ex; cases ex
    | some n =>
      rw [en] at ex er
      obtain rfl : V.int n = x := Option.some.inj ex
      obtain ⟨s1, s3⟩ := hσ (.int n)
      refine ⟨s3, ?_⟩
      refine ⟨_, s1, _, _, rfl, rfl, _, hF, by rw [List.length_map, List.length_map, List.length_take, sizeLine_eq]; omega, y.mut (.inl hD) (by rw [hF]; exact Soft.lst), ?_⟩
      rw [upd_same, List.take_add_one, er, List.map_append, List.map_append]
      rfl
  · rw [List.take_of_length_le (by rw [List.length_reverse]; exact Nat.le_refl _)] at hF
    exact q H' D y hD hF
theorem rd_turn {σ : L2.St} {q cd : Addr} {g : List (Option Nat)} {gs : List (List (Option Nat))} {Q : VK} (n : Lsn ls) (h8 : σ[8]? = some (some (.ref cd))) (h7 : σ[7]? = some (some (.ref q))) (hd : DG P w K H cd (vrL (prof ls) H) gs) (hg : g ∈ gs) (hq : SqT K H q (g.map keyV))
    (hσ : ∀ x : V, ((wipe σ [13]).set 13 (some x))[13]? = some (some x) ∧ wipe ((wipe σ [13]).set 13 (some x)) [13] = wipe σ [13]) (h : ∀ H2 v, Xo T nM H H2 → vrL (trn ls) H2 g v → Q v H2) : teTurn P w K σ H Q := by
  refine cb1 ?_
  refine rd_negR2 (T := T) (K := K) (te := tCnt P w K 8 7) (j := 13) (H1 := H) (ns := prof ls g) (fun R hR => rd_ix h8 h7 hd hg hq fun v ⟨t, e, ht⟩ => by rw [e]; exact hR t (SqT.of ht)) (by have := prof_len50 (g := g) n; omega) hσ fun H3 D x3 _ hD => ?_
  refine ⟨D, _, rfl, .inl ⟨SqL.of hD, fun u hu => ?_⟩⟩
  exact h _ _ (x3.new hu) ⟨u, rfl, upd_same⟩
/-- sum of place * count -/
theorem rd_psum {σ : L2.St} {q cd : Addr} {g : List (Option Nat)} {gs : List (List (Option Nat))} {Q : VK} (n : Lsn ls) (h8 : σ[8]? = some (some (.ref cd))) (h7 : σ[7]? = some (some (.ref q))) (hd : DG P w K H cd (vrL (prof ls) H) gs) (hg : g ∈ gs) (hq : SqT K H q (g.map keyV))
    (hσ : ∀ x : V, ((wipe σ [14]).set 14 (some x))[14]? = some (some x) ∧ ((wipe σ [14]).set 14 (some x))[8]? = some (some (.ref cd)) ∧ ((wipe σ [14]).set 14 (some x))[7]? = some (some (.ref q)) ∧ wipe ((wipe σ [14]).set 14 (some x)) [14] = wipe σ [14]) (h : ∀ H2 v, Xo T nM H H2 → vrI (placeSum ls) H2 g v → Q v H2) : teSum P w K σ H Q := by
  refine cb1 ?_
  refine cb1 (rd_ix h8 h7 hd hg hq fun v hv => ?_)
  obtain ⟨t, rfl, ht⟩ := hv
  have hl := prof_len50 (g := g) n
  rw [prof_len] at hl
  have ef : (prof ls g).map V.int = fl (fun p => .int (cnt ls g p)) (longest ls) := by
    unfold prof fl
    rw [List.map_map]
    rfl
  refine ⟨t, _, rfl, .inr (SqT.of ht), _, rfl, by omega, by rw [List.length_map, prof_len]; omega, ?_⟩
  rw [List.length_map, prof_len, Int.toNat_natCast]
  refine fun D hD => lc_range (lo := 0) (n := longest ls) (fun i H' => Xo T nM H H' ∧ H' D = some (.lst (fl (fun p => .int ((p : Int) * cnt ls g p)) i))) ⟨Xo.new1 hD, upd_same⟩ (fun i H' hi ⟨hx, hF⟩ => ?_) (fun H' ⟨hx, hF⟩ => ?_)
  · rw [Int.zero_add]
    obtain ⟨s14, s8, s7, sw⟩ := hσ (iv i)
    refine ⟨sw, _, s14, rd_ix s8 s7 (hd.mono (fun φ e => hx.keep cd _ e (fun z => z) fun ps z => by cases z) (fun a xs z => hx.sT z) fun g v hv => hv) hg (hx.sT hq) fun v hv => ?_⟩
    obtain ⟨t', rfl, ht'⟩ := hv
    have ht2 : H' t' = some (.tup ((prof ls g).map V.int)) := hx.keep t' _ ht' (fun z => z) fun ps z => by cases z
    rw [ef] at ht2
    refine ⟨_, s14, t', _, _, _, rfl, rfl, SqT.of ht2, fl_at hi, _, _, rfl, rfl, .inl ⟨by omega, by omega⟩, _, hF, by rw [fl_len, sizeLine_eq]; omega, hx.mut (.inl hD) (by rw [hF]; exact Soft.lst), ?_⟩
    rw [upd_same, fl_snoc]
  · have e2 : fl (fun p => V.int ((p : Int) * cnt ls g p)) (longest ls) = (((List.range (longest ls)).map fun p => ((p : Nat) : Int) * cnt ls g p)).map V.int := by
      unfold fl
      rw [List.map_map]
      rfl
    rw [e2] at hF
    refine ⟨D, _, rfl, SqL.of hF, h H' _ hx ?_⟩
    rw [sum_map_range]
    rfl
end
end G3

set_option Elab.async false
set_option linter.all false
set_option maxRecDepth 100000
set_option maxHeartbeats 2000000
namespace G3
open PySem PySem.Spec PyProof.Rows L2
/-! ### the law: its last test, and what it returns -/
theorem ne_int {H : Hp} {a b : Int} {Q : VK} (e : a = b) (q : Q (.bl false) H) : rNe (.int a) (.int b) H Q := by
  subst e
  refine ⟨rfl, ?_⟩
  rw [decide_eq_true rfl]
  exact q
theorem prof_sum {ls : List (List Nat)} {g : List (Option Nat)} (h : g ∈ givs ls) : (prof ls g).sum = many ls g := many_prof (mem_givs.mp h)
theorem eqv_ints (ns : List Int) : PyData.eqv (.list (ns.map PyData.int)) (.list (ns.map PyData.int)) = true := by
  have h : PyData.eqv (.tuple (ns.map PyData.int)) (.tuple (ns.map PyData.int)) = true := by
    rw [tup_eqv (flats_ints ns) (flats_ints ns)]
    exact decide_eq_true rfl
  simpa only [PyData.eqv] using h
theorem DG.xo {P : Program} {w : World} {K : PySem.W.Frag} {T : TbA} {H H' : Hp} {c : Addr} {VR : Hp → List (Option Nat) → V → Prop} {gs : List (List (Option Nat))} (h : DG P w K H c (VR H) gs) (x : Xo T nM H H') (v : VOk T VR) : DG P w K H' c (VR H') gs :=
  h.mono (fun φ e => x.keep c _ e (fun z => z) fun ps z => by cases z) (fun _ _ z => x.sT z) fun _ _ z => v.x x z
abbrev tLast (P : Program) (w : World) (K : PySem.W.Frag) (T : TbA) : TT := tOr (tTest (tOp (rNeD K) (tCall (spRev K T) [] E0 (tCons (tVar 2) (tCons (tVar 7) tNil))) (tOp (rCatA K) (tTup (tCons (tSumC P w K 7) tNil)) (tCnt P w K 10 7))))
  (tOr (tTest (tOp rNe (tCall (spPlaces K T) [] E0 (tCons (tVar 2) (tCons (tVar 7) tNil))) (tCnt P w K 11 7))) (tTest (tOp rNe (tCall (spMany K T) [] E0 (tCons (tVar 7) tNil)) (tSumC P w K 7))))
section
variable {P : Program} {w : World} {K : PySem.W.Frag} {T : TbA} {H : Hp} {d a e l : Addr} {ts qs : List Addr} {ls : List (List Nat)}
theorem rd_last {σ : L2.St} {cd td sd t : Addr} {g : List (Option Nat)} {Q' : Bool → Hp → Prop} (v : Ev K T H d a e l ts ls qs) (n : Lsn ls) (h2 : σ[2]? = some (some (.ref a))) (h7 : σ[7]? = some (some (.ref t))) (h8 : σ[8]? = some (some (.ref cd))) (h10 : σ[10]? = some (some (.ref td))) (h11 : σ[11]? = some (some (.ref sd)))
    (hcd : DG P w K H cd (vrL (prof ls) H) (givs ls)) (htd : DG P w K H td (vrL (trn ls) H) (givs ls)) (hsd : DG P w K H sd (vrI (placeSum ls) H) (givs ls)) (hg : g ∈ givs ls) (st : SqT K H t (g.map keyV))
    (q : ∀ H', Ev K T H' d a e l ts ls qs → Q' false H') : tLast P w K T σ H Q' := by
  refine ⟨_, h2, _, h7, a, t, ts, ls, g, rfl, v.prOk n hg st, fun H1 r x1 hr => ?_⟩
  have v1 := v.xo x1
  replace hcd := hcd.xo x1 vokL
  replace htd := htd.xo x1 vokL
  replace hsd := hsd.xo x1 vokI
  replace st := x1.sT st
  clear v x1
  refine rd_sumC h8 h7 hcd hg st ⟨by show 1 ≤ sizeLine; decide, fun u hu => ?_⟩
  have x2 := Xo.new1 (T := T) (M := nM) (o := .tup [.int (prof ls g).sum]) hu
  have hu2 : SqT K (upd H1 u (.tup [.int (prof ls g).sum])) u [.int (prof ls g).sum] := SqT.of upd_same
  generalize upd H1 u (.tup [.int (prof ls g).sum]) = H2 at x2 hu2 ⊢
  have v2 := v1.xo x2
  replace hcd := hcd.xo x2 vokL
  replace htd := htd.xo x2 vokL
  replace hsd := hsd.xo x2 vokI
  replace st := x2.sT st
  replace hr := x2.sT hr
  clear v1 x2 hu
  refine rd_ix h10 h7 htd hg st fun v hv => ?_
  obtain ⟨c, rfl, hc⟩ := hv
  have hl50 := prof_len50 (g := g) n
  have rest : ∀ H', Xo T nM H2 H' → tOr (tTest (tOp rNe (tCall (spPlaces K T) [] E0 (tCons (tVar 2) (tCons (tVar 7) tNil))) (tCnt P w K 11 7))) (tTest (tOp rNe (tCall (spMany K T) [] E0 (tCons (tVar 7) tNil)) (tSumC P w K 7))) σ H' Q' := fun H' x => by
    have v3 := v2.xo x
    refine ⟨_, h2, _, h7, a, t, ts, ls, g, rfl, v3.prOk n hg (x.sT st), v3.tb, fun H3 x3 => rd_ix h11 h7 ((hsd.xo x vokI).xo x3 vokI) hg (x3.sT (x.sT st)) fun v hv => ?_⟩
    obtain rfl : v = .int (placeSum ls g) := hv
    refine ne_int rfl ⟨_, rfl, iteF ?_⟩
    have hgv := mem_givs.mp hg
    refine ⟨_, h7, t, g, rfl, x3.sT (x.sT st), by rw [hgv.len]; have := n.len; omega, fun H4 x4 => rd_sumC h8 h7 (((hcd.xo x vokL).xo x3 vokL).xo x4 vokL) hg (x4.sT (x3.sT (x.sT st))) ?_⟩
    refine ne_int (by rw [many_some hgv, prof_sum hg]) ⟨_, rfl, ?_⟩
    exact q H4 ((v3.xo x3).xo x4)
  have ec : [V.int (prof ls g).sum] ++ (trn ls g).map V.int = (((prof ls g).sum :: trn ls g).map V.int) := rfl
  refine ⟨u, c, _, _, rfl, rfl, hu2, SqT.of hc, by rw [List.length_map, List.length_map, List.length_reverse, List.length_singleton, sizeLine_eq]; omega, (fun z => nomatch z), fun _ e => ?_, fun _ _ p hp => ?_⟩
  · have et : trn ls g = [] := by simpa using e
    refine ne_same hr (ns := (prof ls g).sum :: trn ls g) (ms := (prof ls g).sum :: trn ls g) ?_ rfl ⟨_, rfl, iteF (rest H2 .refl)⟩
    rw [et]
    exact hu2
  · have x3 := Xo.new1 (T := T) (M := nM) (o := .tup ([V.int (prof ls g).sum] ++ (trn ls g).map V.int)) hp
    exact ne_same (x3.sT hr) (ns := (prof ls g).sum :: trn ls g) (ms := (prof ls g).sum :: trn ls g) (SqT.of upd_same) rfl ⟨_, rfl, iteF (rest _ x3)⟩
abbrev tW (K : PySem.W.Frag) (T : TbA) (up : Bool) (a b c : Int) : TE := tOp (rEqD K) (tCall (spWeights T) [] E0 (tCons (tC (.int 3)) (tCons (tC (.int 4)) (tCons (tC (.bl up)) tNil)))) (tLst (tCons (tC (.int a)) (tCons (tC (.int b)) (tCons (tC (.int c)) tNil))))
theorem rd_w {σ : L2.St} {up : Bool} {x y z : Int} {Q : VK} (he : fl (fun i => V.int (if up = true then (4 : Int) ^ (wLen 3 - 1 - i) else 4 ^ i)) (wLen 3) = [x, y, z].map V.int) (q : ∀ H', Q (.bl true) H') : tW K T up x y z σ H Q := by
  refine ⟨3, 4, up, rfl, by decide, by decide, by decide, fun H1 r x1 hr0 hr => ⟨by show 3 ≤ sizeLine; decide, fun u hu => ?_⟩⟩
  rw [he] at hr
  have h3 := (Xo.new1 (T := T) (M := nM) (o := .lst [.int x, .int y, .int z]) hu).sL (SqL.of (K := K) hr)
  have hs : SeqAt.shaped (.list ([x, y, z].map PyData.int)) = true := by
    obtain ⟨l1, l2⟩ := (flats_ints [x, y, z]).lay
    show (PyData.canLay0 (.list _) && decide (PyData.depth (.list _) ≤ 64)) = true
    rw [Bool.and_eq_true]
    exact ⟨by simp only [PyData.canLay0]; exact l1, decide_eq_true (by simp only [PyData.depth]; omega)⟩
  refine ⟨.list ([x, y, z].map PyData.int), .list ([x, y, z].map PyData.int), .lst h3 (flats_ints [x, y, z]).dp, .lst (SqL.of upd_same) (flats_ints [x, y, z]).dp, hs, hs, ?_⟩
  rw [eqv_ints]
  exact q _
theorem rd_wts {σ : L2.St} {Q : VK} (q : ∀ H', Q (.bl true) H') : tAndV (tW K T true 16 4 1) (tW K T false 1 4 16) σ H Q := by
  refine rd_w (by decide) fun H1 => ⟨_, rfl, iteT ?_⟩
  exact rd_w (by decide) q
end
end G3

set_option Elab.async false
set_option linter.all false
set_option maxRecDepth 100000
set_option maxHeartbeats 4000000
namespace G3
open PySem PySem.Spec PyProof.Rows L2
/-! ### the law -/
theorem sq_set {te : TE} {i : Nat} {S : TS} {D : Ends} {σ : L2.St} {H : Hp} (h : te σ H fun v H1 => S D (σ.set i (some v)) H1) : tSeq (tAsg te (gName i)) S D σ H := h
theorem sq_if {tt : TT} {A S : TS} {D : Ends} {σ : L2.St} {H : Hp} (h : tt σ H fun b H1 => if b = true then A { D with nx := S D } σ H1 else S D σ H1) : tSeq (tIfS tt A tNext) S D σ H := h
theorem sq_if1 {tt : TT} {A : TS} {D : Ends} {σ : L2.St} {H : Hp} (h : tt σ H fun b H1 => if b = true then A D σ H1 else D.nx σ H1) : tIfS tt A tNext D σ H := h
theorem sq_par3 {i j l : Nat} {ta : TA} {S : TS} {D : Ends} {σ : L2.St} {H : Hp} (h : ta σ H fun vs H1 => ∃ u v w, vs = [u, v, w] ∧ S D (((σ.set i (some u)).set j (some v)).set l (some w)) H1) : tSeq (tPar3 i j l ta) S D σ H := h
section
variable {T : TbA} {K : PySem.W.Frag} {P : Program} {w : World} {H H' : Hp} {d a e l : Addr} {ts qs : List Addr} {ls : List (List Nat)}
theorem Xo.sD {x y z : Int} (xo : Xo T (fun b => b = d) H H') (hd : H d = some (dc x y z)) {t : Addr} {xs : List V} (h : SqT K H t xs) : SqT K H' t xs :=
  xo.seqT h (fun b ys hb e => by rw [e, hd] at hb; cases hb) fun b o ys hb e => by rw [e, hd] at hb; cases hb
theorem Ev.roll {x y z x' y' z' : Int} (v : Ev K T H d a e l ts ls qs) (xo : Xo T (fun b => b = d) H H') (hd : H d = some (dc x y z)) (hd' : H' d = some (dc x' y' z')) (ha : a ≠ d) (he : e ≠ d) (hl : l ≠ d) : Ev K T H' d a e l ts ls qs :=
  ⟨xo.lst v.L ha, Paired.mapP v.F fun t l h => h.xo xo (fun z => by obtain ⟨ob, _, h⟩ := h; rw [z, hd] at h; cases h), xo.lst v.E he, Paired.mapP v.G fun _ _ z => xo.sD hd z, ⟨_, _, _, hd'⟩, xo.tb v.tb, xo.lst v.R hl⟩
theorem DG.rollL {f : List (Option Nat) → List Int} {x y z : Int} {c : Addr} {gs : List (List (Option Nat))} (h : DG P w K H c (vrL f H) gs) (xo : Xo T (fun b => b = d) H H') (hd : H d = some (dc x y z)) : DG P w K H' c (vrL f H') gs := by
  refine h.mono (fun φ e => xo.keep c _ e (fun z => by rw [z, hd] at e; cases e) fun ps z => by cases z) (fun _ _ z => xo.sD hd z) fun g v hv => ?_
  obtain ⟨t, e, ht⟩ := hv
  exact ⟨t, e, xo.keep t _ ht (fun z => by rw [z, hd] at ht; cases ht) fun ps z => by cases z⟩
theorem DG.rollI {f : List (Option Nat) → Int} {x y z : Int} {c : Addr} {gs : List (List (Option Nat))} (h : DG P w K H c (vrI f H) gs) (xo : Xo T (fun b => b = d) H H') (hd : H d = some (dc x y z)) : DG P w K H' c (vrI f H') gs :=
  h.mono (fun φ e => xo.keep c _ e (fun z => by rw [z, hd] at e; cases e) fun ps z => by cases z) (fun _ _ z => xo.sD hd z) fun g v hv => hv
end
theorem eqv_nil : PyData.eqv (.list []) (.list []) = true := by simp [PyData.eqv, PyData.eqvAll]
theorem filt_all (gs : List (List (Option Nat))) : gs.filter (fun _ => true) = gs := by simp
section
variable {P : Program} {w : World} {K : PySem.W.Frag} {mg : Str → Option Value} {base : Heap} {T : TbA}
theorem ok_law {f : Addr} {fd : FuncData} (F : Fun K "law" "law" sLaw f fd) (B : Blt mg) (Z : Lw P w K mg base T) : FnOk P w K mg base CX0 6 f fd ["_law_script"] (spLaw K T) := by
  obtain ⟨fR, dR, G1, k1, b1, g1⟩ := Z.rounds
  obtain ⟨fRo, dRo, G2, k2, b2, g2⟩ := Z.roll
  obtain ⟨fLi, dLi, G3, k3, b3, g3⟩ := Z.list
  obtain ⟨fGi, dGi, G4, k4, b4, g4⟩ := Z.givings
  obtain ⟨fLp, dLp, G5, k5, b5, g5⟩ := Z.lprof
  obtain ⟨fFi, dFi, G6, k6, b6, g6⟩ := Z.firsts
  obtain ⟨fLa, dLa, G7, k7, b7, g7⟩ := Z.lasts
  obtain ⟨fLe, dLe, G8, k8, b8, g8⟩ := Z.least
  obtain ⟨fPr, dPr, G9, k9, b9, g9⟩ := Z.prof
  obtain ⟨fRe, dRe, Ga, ka, ba, ga⟩ := Z.rev
  obtain ⟨fPl, dPl, Gb, kb, bb, gb⟩ := Z.places
  obtain ⟨fMa, dMa, Gc, kc, bc, gc⟩ := Z.many
  obtain ⟨fWe, dWe, Gd, kd, bd, gd⟩ := Z.weights
  refine F.ok scLaw (fun vs H Q E h => ?_) (fun cdv A outer s H vs Q E hr h => ?_)
  · obtain ⟨a, ns, rfl, _⟩ := h
    rfl
  · obtain ⟨a, ns, rfl, hL, hT, q⟩ := h
    have h1 : Room 1 _ := hr.mono (by decide)
    have h2 : Room 2 _ := hr.mono (by decide)
    have h5 : Room 5 _ := hr
    have hu : (A.deeper (envOfC "law" (defScope sLaw) s.heap.objs.size f cdv)).units + 65 < cLine := by have := hr.un; omega
    refine ⟨_, pss_cons (ps_for PassesOwn.never rfl (pi_list (pe_call G1 h2 rfl g1 k1 b1 .nil pass0 (pa_cons (pv 0) (pa_cons pe_int pa_nil)))) (pg_name (i := 1) scLaw.nd rfl (Or.inr rfl))
        (pss_cons (ps_set (i := 2) scLaw.nd rfl (Or.inr rfl) (pe_lc (own := [("_law_k", 12)]) (g := gName 12) (tt := tYes) (te := tCall (spList K T) [] E0 (tCons (tVar 1) (tCons (tC (.int 3)) tNil))) rfl scLaw.nd
            (pi_range1 (by rfl) B.range (pa_cons (pe_op op_add pe_int (pe_call G2 h1 rfl g2 k2 b2 .nil pass0 (pa_cons (pv 1) (pa_cons pe_int pa_nil)))) pa_nil)) (blkOk_by (N := lwN) (sc := defScope sLaw) (by decide +kernel))
            (fun _ _ _ _ _ => pg_name (i := 12) scLaw.nd rfl (Or.inl rfl)) (fun _ _ _ _ _ => pts_nil) (fun _ _ _ _ _ => pe_call G3 h2 rfl g3 k3 b3 .nil pass0 (pa_cons (pv 1) (pa_cons pe_int pa_nil)))))
        (pss_cons (ps_set (i := 3) scLaw.nd rfl (Or.inr rfl) (pe_call G4 h2 rfl g4 k4 b4 .nil pass0 (pa_cons (pv 2) pa_nil)))
        (pss_cons (ps_par3 (i := 4) (j := 5) (l := 6) rfl scLaw.nd rfl rfl rfl (by decide) (by decide) (by decide) rfl rfl rfl
            (pa_cons (pe_call G6 h5 rfl g6 k6 b6 .nil pass0 (pa_cons (pv 2) (pa_cons pe_int pa_nil))) (pa_cons (pe_call G7 h5 rfl g7 k7 b7 .nil pass0 (pa_cons (pv 2) (pa_cons pe_int pa_nil))) (pa_cons (pe_call G8 h5 rfl g8 k8 b8 .nil pass0 (pa_cons (pv 2) (pa_cons pe_int pa_nil))) pa_nil))) rfl)
        (pss_cons (ps_if (pt_cmpR (op_neD hr.units) (pe_lc (own := [("_law_one", 7)]) (g := gName 7) (tt := tTest (tOp (rNotInD K) (tVar 7) (tVar 3))) (te := tVar 7) rfl scLaw.nd (pi_list (pe_lst (pa_cons (pv 4) (pa_cons (pv 5) (pa_cons (pv 6) pa_nil))))) (blkOk_by (N := lwN) (sc := defScope sLaw) (by decide +kernel))
            (fun _ _ _ _ _ => pg_name (i := 7) scLaw.nd rfl (Or.inl rfl)) (fun _ _ _ _ _ => pts_one (pt_cmpR (op_notInD hu) (pv 7) (pv 3) (by rfl))) (fun _ _ _ _ _ => pv 7)) (pe_lst pa_nil) (nomark _)) (pss_one (ps_ret pe_bl)) pss_nil)
        (pss_cons (ps_set (i := 8) scLaw.nd rfl (Or.inr rfl) (pe_callTy (call_dctG hr) (by rfl) B.dict (by decide +kernel) (pa_cons (pe_lc (own := [("_law_one", 7)]) (g := gName 7) (tt := tYes) (te := tPr (teProf K T)) rfl scLaw.nd (pi_list (pv 3)) (blkOk_by (N := lwN) (sc := defScope sLaw) (by decide +kernel)) (fun _ _ _ _ _ => pg_name (i := 7) scLaw.nd rfl (Or.inl rfl)) (fun _ _ _ _ _ => pts_nil) (fun _ _ _ _ _ => pe_tup (pa_cons (pv 7) (pa_cons (pe_call G5 h1 rfl g5 k5 b5 .nil pass0 (pa_cons (pv 2) (pa_cons (pv 7) pa_nil))) pa_nil)))) pa_nil)))
        (pss_cons (ps_if (PW.pt (pw_or (pt_cmpR (op_neD hr.units) (pe_ix (ix_dgk hr) (pv 8) (pv 4) (fun _ _ => rfl)) (pe_callB (cr_maxT hr) (by rfl) B.max PyProof.Rows.boot_max (pa_cons (pe_lc (own := [("_law_one", 7)]) (g := gName 7) (tt := tYes) (te := tCnt P w K 8 7) rfl scLaw.nd (pi_list (pv 3)) (blkOk_by (N := lwN) (sc := defScope sLaw) (by decide +kernel)) (fun _ _ _ _ _ => pg_name (i := 7) scLaw.nd rfl (Or.inl rfl)) (fun _ _ _ _ _ => pts_nil) (fun _ _ _ _ _ => (pe_ix (ix_dgk hr) (pv 8) (pv 7) (fun _ _ => rfl)))) pa_nil)) (nomark _)) (pw_or1 (pt_cmpR (op_neD hr.units) (pe_call G9 h1 rfl g9 k9 b9 .nil pass0 (pa_cons (pv 2) (pa_cons (pv 4) pa_nil))) (pe_ix (ix_dgk hr) (pv 8) (pv 4) (fun _ _ => rfl)) (nomark _))))) (pss_one (ps_ret pe_bl)) pss_nil)
        (pss_cons (ps_set (i := 9) scLaw.nd rfl (Or.inr rfl) (pe_callB (cr_max rfl) (by rfl) B.max PyProof.Rows.boot_max (pa_cons (pe_lc (own := [("_law_one", 7)]) (g := gName 7) (tt := tYes) (te := tSumC P w K 7) rfl scLaw.nd (pi_list (pv 3)) (blkOk_by (N := lwN) (sc := defScope sLaw) (by decide +kernel)) (fun _ _ _ _ _ => pg_name (i := 7) scLaw.nd rfl (Or.inl rfl)) (fun _ _ _ _ _ => pts_nil) (fun _ _ _ _ _ => (pe_callB (cr_sumT hr) (by rfl) B.sum PyProof.Rows.boot_sum (pa_cons (pe_ix (ix_dgk hr) (pv 8) (pv 7) (fun _ _ => rfl)) pa_nil)))) pa_nil)))
        (pss_cons (ps_set (i := 10) scLaw.nd rfl (Or.inr rfl) (pe_callTy (call_dctG hr) (by rfl) B.dict (by decide +kernel) (pa_cons (pe_lc (own := [("_law_one", 7)]) (g := gName 7) (tt := tYes) (te := tPr (teTurn P w K)) rfl scLaw.nd (pi_list (pv 3)) (blkOk_by (N := lwN) (sc := defScope sLaw) (by decide +kernel)) (fun _ _ _ _ _ => pg_name (i := 7) scLaw.nd rfl (Or.inl rfl)) (fun _ _ _ _ _ => pts_nil) (fun _ _ _ _ _ => pe_tup (pa_cons (pv 7) (pa_cons (pe_callTy call_tuple_of (by rfl) B.tuple (by decide +kernel) (pa_cons (pe_lc (own := [("_law_many", 13)]) (g := gName 13) (tt := tYes) rfl scLaw.nd (RT.pi_revA (by rfl) B.reversed (pe_ix (ix_dgk hr) (pv 8) (pv 7) (fun _ _ => rfl))) (blkOk_by (own := [("_law_many", 13)]) (N := lwN) (sc := scT1) (scope := scT2) (by decide +kernel)) (fun _ _ _ _ _ => pg_name (i := 13) scLaw.nd rfl (Or.inl rfl)) (fun _ _ _ _ _ => pts_nil) (fun _ _ _ _ _ => pe_op op_sub pe_int (pv 13))) pa_nil)) pa_nil)))) pa_nil)))
        (pss_cons (ps_if (PW.pt (pw_or (pt_cmpR op_ne (pe_callB (cr_sumT hr) (by rfl) B.sum PyProof.Rows.boot_sum (pa_cons (pe_ix (ix_dgk hr) (pv 8) (pv 5) (fun _ _ => rfl)) pa_nil)) (pv 9) (nomark _)) (pw_or1 (pt_cmpR (op_neD hr.units) (pe_ix (ix_dgk hr) (pv 10) (pv 5) (fun _ _ => rfl)) (pe_callB (cr_maxT hr) (by rfl) B.max PyProof.Rows.boot_max (pa_cons (pe_lc (own := [("_law_one", 7)]) (g := gName 7) (tt := tMost P w K) (te := tCnt P w K 10 7) rfl scLaw.nd (pi_list (pv 3)) (blkOk_by (N := lwN) (sc := defScope sLaw) (by decide +kernel)) (fun _ _ _ _ _ => pg_name (i := 7) scLaw.nd rfl (Or.inl rfl)) (fun _ _ _ _ _ => pts_one (pt_cmpR op_eq (pe_callB (cr_sumT hr) (by rfl) B.sum PyProof.Rows.boot_sum (pa_cons (pe_ix (ix_dgk hr) (pv 8) (pv 7) (fun _ _ => rfl)) pa_nil)) (pv 9) (by rfl))) (fun _ _ _ _ _ => (pe_ix (ix_dgk hr) (pv 10) (pv 7) (fun _ _ => rfl)))) pa_nil)) (nomark _))))) (pss_one (ps_ret pe_bl)) pss_nil)
        (pss_cons (ps_set (i := 11) scLaw.nd rfl (Or.inr rfl) (pe_callTy (call_dctG hr) (by rfl) B.dict (by decide +kernel) (pa_cons (pe_lc (own := [("_law_one", 7)]) (g := gName 7) (tt := tYes) (te := tPr (teSum P w K)) rfl scLaw.nd (pi_list (pv 3)) (blkOk_by (N := lwN) (sc := defScope sLaw) (by decide +kernel)) (fun _ _ _ _ _ => pg_name (i := 7) scLaw.nd rfl (Or.inr rfl)) (fun _ _ _ _ _ => pts_nil) (fun _ _ _ _ _ => pe_tup (pa_cons (pv 7) (pa_cons (pe_callB (cr_sum rfl) (by rfl) B.sum PyProof.Rows.boot_sum (pa_cons (pe_lc (own := [("_law_place", 14)]) (g := gName 14) (tt := tYes) rfl scLaw.nd (pi_range1 (by rfl) B.range (pa_cons (pe_callB call_len_seq (by rfl) B.len PySem.boot_len (pa_cons (pe_ix (ix_dgk hr) (pv 8) (pv 7) (fun _ _ => rfl)) pa_nil)) pa_nil)) (blkOk_by (own := [("_law_place", 14)]) (N := lwN) (sc := scS1) (scope := scS2) (by decide +kernel)) (fun _ _ _ _ _ => pg_name (i := 14) scLaw.nd rfl (Or.inl rfl)) (fun _ _ _ _ _ => pts_nil) (fun _ _ _ _ _ => pe_op op_mul (pv 14) (pe_ix ix_tup (pe_ix (ix_dgk hr) (pv 8) (pv 7) (fun _ _ => rfl)) (pv 14) (fun _ _ => rfl)))) pa_nil)) pa_nil)))) pa_nil)))
        (pss_cons (ps_if (PW.pt (pw_or (pt_cmpR op_ne (pe_call Gc h1 rfl gc kc bc .nil pass0 (pa_cons (pv 6) pa_nil)) (pv 9) (nomark _)) (pw_or1 (pt_cmpR op_ne (pe_ix (ix_dgk hr) (pv 11) (pv 6) (fun _ _ => rfl)) (pe_callB (cr_min rfl) (by rfl) B.min PyProof.Rows.boot_min (pa_cons (pe_lc (own := [("_law_one", 7)]) (g := gName 7) (tt := tMost P w K) (te := tCnt P w K 11 7) rfl scLaw.nd (pi_list (pv 3)) (blkOk_by (N := lwN) (sc := defScope sLaw) (by decide +kernel)) (fun _ _ _ _ _ => pg_name (i := 7) scLaw.nd rfl (Or.inl rfl)) (fun _ _ _ _ _ => pts_one (pt_cmpR op_eq (pe_callB (cr_sumT hr) (by rfl) B.sum PyProof.Rows.boot_sum (pa_cons (pe_ix (ix_dgk hr) (pv 8) (pv 7) (fun _ _ => rfl)) pa_nil)) (pv 9) (by rfl))) (fun _ _ _ _ _ => (pe_ix (ix_dgk hr) (pv 11) (pv 7) (fun _ _ => rfl)))) pa_nil)) (nomark _))))) (pss_one (ps_ret pe_bl)) pss_nil)
        (pss_cons (ps_set (i := 7) scLaw.nd rfl (Or.inl rfl) (pe_ix ix_list (pv 3) (pe_call G2 h1 rfl g2 k2 b2 .nil pass0 (pa_cons (pv 1) (pa_cons (pe_callB call_len_seq (by rfl) B.len PySem.boot_len (pa_cons (pv 3) pa_nil)) pa_nil))) (fun _ _ => rfl)))
        (pss_one (ps_if (PW.pt (pw_or (pt_cmpR (op_neD hr.units) (pe_call Ga h2 rfl ga ka ba .nil pass0 (pa_cons (pv 2) (pa_cons (pv 7) pa_nil))) (pe_op op_catA (pe_tup (pa_cons (pe_callB (cr_sumT hr) (by rfl) B.sum PyProof.Rows.boot_sum (pa_cons (pe_ix (ix_dgk hr) (pv 8) (pv 7) (fun _ _ => rfl)) pa_nil)) pa_nil)) (pe_ix (ix_dgk hr) (pv 10) (pv 7) (fun _ _ => rfl))) (nomark _)) (pw_or (pt_cmpR op_ne (pe_call Gb h1 rfl gb kb bb .nil pass0 (pa_cons (pv 2) (pa_cons (pv 7) pa_nil))) (pe_ix (ix_dgk hr) (pv 11) (pv 7) (fun _ _ => rfl)) (nomark _)) (pw_or1 (pt_cmpR op_ne (pe_call Gc h1 rfl gc kc bc .nil pass0 (pa_cons (pv 7) pa_nil)) (pe_callB (cr_sumT hr) (by rfl) B.sum PyProof.Rows.boot_sum (pa_cons (pe_ix (ix_dgk hr) (pv 8) (pv 7) (fun _ _ => rfl)) pa_nil)) (nomark _)))))) (pss_one (ps_ret pe_bl)) pss_nil)))))))))))))))
      (pss_one (ps_ret (pe_and (pe_cmpR (op_eqD hr.units) (pe_call Gd h1 rfl gd kd bd .nil pass0 (pa_cons pe_int (pa_cons pe_int (pa_cons pe_bl pa_nil)))) (pe_lst (pa_cons pe_int (pa_cons pe_int (pa_cons pe_int pa_nil)))) (nomark _)) (pe_one (pe_cmpR (op_eqD hr.units) (pe_call Gd h1 rfl gd kd bd .nil pass0 (pa_cons pe_int (pa_cons pe_int (pa_cons pe_bl pa_nil)))) (pe_lst (pa_cons pe_int (pa_cons pe_int (pa_cons pe_int pa_nil)))) (nomark _)))))), ?_⟩
    refine ⟨_, rfl, a, ns, rfl, hL, hT, fun H1 l d x y z x1 hl hd => ⟨l, rfl, ⟨_, SqL.of hl⟩, ?_⟩⟩
    have hld : l ≠ d := fun e => by rw [e, hd] at hl; cases hl
    refine for_list (K := K) (a := l) (xs := [.ref d]) (fun i σ H' => H' l = some (.lst [.ref d]) ∧ (i = 0 → σ = L2.start lwN [.ref a] ∧ H' = H1)) ⟨hl, fun _ => ⟨rfl, rfl⟩⟩ (fun i σ H' _ h => SqL.of h.1) (fun i x σ H' hi h => ?_) (fun σ H' h => ?_)
    · have i0 : i = 0 := by
        have := (List.getElem?_eq_some_iff.mp hi).1
        simpa using this
      subst i0
      obtain rfl : V.ref d = x := Option.some.inj hi
      obtain ⟨hσ, hH⟩ := h.2 rfl
      subst hσ hH
      clear h hi
      refine sq_set (rd_lists (T := T) (K := K) rfl hd (fun x => ⟨rfl, rfl⟩) fun H2 A x y z ts ls x2 hAd hd2 hA hLF hne hlen hok => ?_)
      have n : Lsn ls := ⟨hne, hlen, hok⟩
      refine sq_set ⟨_, rfl, A, ts, ls, rfl, SqL.of hA, Paired.mapP hLF (fun _ _ z => z.sq), hlen, (fun l hl => (hok l hl).2.2), fun H3 e qs x3 he hG => ?_⟩
      have hed : e ≠ d := fun z0 => by
        rw [z0, x3.lst hd2 (fun z => z)] at he
        have h2 : [V.int x, V.int y, V.int z] = qs.map V.ref := by
          injection he with h
          injection h
        cases qs with
        | nil => cases h2
        | cons q qs =>
          rw [List.map_cons] at h2
          injection h2 with h3
          cases h3
      have v3 : Ev K T H3 d A e l ts ls qs := ⟨x3.lst hA (fun z => z), hLF.xo x3, he, hG, ⟨x, y, z, x3.lst hd2 (fun z => z)⟩, x3.tb (x2.tb (x1.tb hT)), x3.lst (x2.lst hl hld) (fun z => z)⟩
      have hgz := n.givs_len
      have hqz : qs.length = (givs ls).length := Paired.length hG
      clear hA hLF hd2 he hG
      refine sq_par3 ⟨_, rfl, A, ts, ls, 3, rfl, v3.lsOk n, v3.tb, fun H4 t1 g1 x4 ht1 bs1 => ⟨_, rfl, A, ts, ls, 3, rfl, (v3.xo x4).lsOk n, (v3.xo x4).tb, fun H5 t2 g2 x5 ht2 bs2 => ⟨_, rfl, A, ts, ls, 3, rfl, ((v3.xo x4).xo x5).lsOk n, ((v3.xo x4).xo x5).tb, fun H6 t3 g3 x6 ht3 bs3 => ⟨_, _, _, rfl, ?_⟩⟩⟩⟩
      have v6 := ((v3.xo x4).xo x5).xo x6
      have m1 := mem_givs.mpr bs1.1
      have m2 := mem_givs.mpr bs2.1
      have m3 := mem_givs.mpr bs3.1
      have s1 : SqT K H6 t1 (g1.map keyV) := x6.sT (x5.sT (SqT.of ht1))
      have s2 : SqT K H6 t2 (g2.map keyV) := x6.sT (SqT.of ht2)
      have s3 : SqT K H6 t3 (g3.map keyV) := SqT.of ht3
      clear ht1 ht2 ht3
      clear x4 x5 x6 v3
      -- the three are givings
      refine sq_if ?_
      refine ⟨_, rfl, _, rfl, _, rfl, by show 3 ≤ sizeLine; decide, fun u hu => ⟨u, rfl, ⟨_, SqL.of upd_same⟩, fun D hD => ?_⟩⟩
      have xu := Xo.new1 (T := T) (M := nM) (o := .lst [.ref t1, .ref t2, .ref t3]) hu
      have hu1 : upd H6 u (.lst [.ref t1, .ref t2, .ref t3]) u = some (.lst [.ref t1, .ref t2, .ref t3]) := upd_same
      generalize upd H6 u (.lst [.ref t1, .ref t2, .ref t3]) = H7 at xu hu1 hD ⊢
      have v7 := v6.xo xu
      have s1' := xu.sT s1
      have s2' := xu.sT s2
      have s3' := xu.sT s3
      refine lc_list (K := K) (a := u) (xs := [.ref t1, .ref t2, .ref t3]) (fun i H' => Xo T nM H7 H' ∧ H' D = some (.lst [])) ⟨.new1 hD, upd_same⟩ (fun i H' _ ⟨x, _⟩ => x.sL (SqL.of hu1)) (fun i x H' hi ⟨hx, hF⟩ => ?_) (fun H' ⟨hx, hF⟩ => ?_)
      · obtain ⟨t, g, rfl, hg, ht⟩ : ∃ t g, x = .ref t ∧ g ∈ givs ls ∧ SqT K H7 t (g.map keyV) := by
          have hm := List.mem_of_getElem? hi
          simp only [List.mem_cons, List.not_mem_nil, or_false] at hm
          rcases hm with rfl | rfl | rfl
          · exact ⟨t1, g1, rfl, m1, s1'⟩
          · exact ⟨t2, g2, rfl, m2, s2'⟩
          · exact ⟨t3, g3, rfl, m3, s3'⟩
        have v8 := v7.xo hx
        refine ⟨rfl, _, rfl, _, rfl, gD g, (givs ls).map gD, dp_tup (hx.sT ht) (flats_keys g), .lst (SqL.of v8.E) (rows_dp (givs_rows v8.G)).1, gD_shaped g, rows_shaped (givs_rows v8.G), _, rfl, ?_⟩
        rw [givs_any, decide_eq_true hg]
        exact iteF ⟨hx, hF⟩
      refine ⟨Nat.zero_le _, fun c hc => ⟨.list [], .list [], .lst ((Xo.new1 (T := T) hc).sL (SqL.of hF)) .nil, .lst (SqL.of upd_same) .nil, nil_shaped, nil_shaped, _, rfl, ?_⟩⟩
      rw [eqv_nil]
      refine iteF ?_
      have xc := (xu.trans hx).new (o := .lst []) hc
      generalize upd H' c (.lst []) = H8 at xc ⊢
      have v8 := v6.xo xc
      replace s1 := xc.sT s1
      replace s2 := xc.sT s2
      replace s3 := xc.sT s3
      clear hx hF hc hu1 hD s1' s2' s3' v7 v6 xu xc
      -- the counts
      refine sq_set (rd_dct (T := T) (K := K) (P := P) (w := w) vokL rfl v8.E v8.G (by omega) (fun x => rfl) (fun x => rfl) (fun H1 q g Q' x hg hq h => rd_prof (T := T) (v8.xo x) n rfl rfl hg hq h) fun H9 cd x9 hcd => ?_)
      have v9 := v8.xo x9
      replace s1 := x9.sT s1
      replace s2 := x9.sT s2
      replace s3 := x9.sT s3
      clear v8 x9
      -- most_firsts
      have gne : givs ls ≠ [] := fun z => by rw [z] at m1; cases m1
      refine sq_if ?_
      refine rd_ix rfl rfl hcd m1 s1 fun v hv => ?_
      obtain ⟨c1, rfl, hc1⟩ := hv
      refine cb1 (rd_comp (T := T) (K := K) (tb := fun _ => true) (VR := vrL (prof ls)) vokL rfl v9.E v9.G (by omega) (fun x => rfl) (fun H1 q g Q' _ _ _ h => h) (fun H1 q g Q' x hg hq h => rd_ix rfl rfl (hcd.xo x vokL) hg hq fun v hv => h H1 v .refl hv) fun H10 D vs x10 hF hp => ?_)
      rw [filt_all] at hp
      refine max_of hF hp gne (fun g _ => prof_len) fun p g hg hpH hmx => ?_
      have e1 : prof ls g1 = prof ls g := lexL_total _ _ (Best.firsts bs1 (mem_givs.mp hg)) (hmx g1 m1)
      refine ne_same (x10.sT (SqT.of hc1)) (SqT.of hpH) e1 ⟨_, rfl, iteF ?_⟩
      have v10 := v9.xo x10
      replace s1 := x10.sT s1
      refine ⟨_, rfl, _, rfl, A, t1, ts, ls, g1, rfl, v10.prOk n m1 s1, fun H11 t x11 ht0 ht => ?_⟩
      replace hcd := (hcd.xo x10 vokL).xo x11 vokL
      have v11 := v10.xo x11
      replace s1 := x11.sT s1
      replace s2 := x11.sT (x10.sT s2)
      replace s3 := x11.sT (x10.sT s3)
      refine rd_ix rfl rfl hcd m1 s1 fun v hv => ?_
      obtain ⟨c2, rfl, hc2⟩ := hv
      refine ne_same (SqT.of ht) (SqT.of hc2) rfl ⟨_, rfl, iteF ?_⟩
      clear hc1 hc2 ht0 ht hF hp hpH hmx e1 v9 v10 x10 x11 hg
      -- the most that are given
      refine sq_set (cb1 (rd_comp (T := T) (K := K) (tb := fun _ => true) (VR := vrI fun g => (prof ls g).sum) vokI rfl v11.E v11.G (by omega) (fun x => rfl) (fun H1 q g Q' _ _ _ h => h) (fun H1 q g Q' x hg hq h => rd_sumC rfl rfl (hcd.xo x vokL) hg hq (h H1 _ .refl rfl)) fun H12 D vs x12 hF hp => ?_))
      rw [filt_all] at hp
      rw [ints_pair hp] at hF
      refine ⟨D, _, rfl, SqL.of hF, by rw [List.length_map]; exact List.length_pos_iff.mpr gne, fun M hM hMx => ?_⟩
      have M2 : (prof ls g2).sum = M := by
        obtain ⟨gm, hgm, rfl⟩ := List.mem_map.mp hM
        have a1 := hMx _ (List.mem_map.mpr ⟨g2, m2, rfl⟩)
        have a2 := (Best.lasts rfl rfl bs2 (mem_givs.mp hgm)).1
        rw [prof_sum m2, prof_sum hgm] at *
        exact Int.le_antisymm a1 a2
      have M3 : (prof ls g3).sum = M := by
        obtain ⟨gm, hgm, rfl⟩ := List.mem_map.mp hM
        have a1 := hMx _ (List.mem_map.mpr ⟨g3, m3, rfl⟩)
        have a2 := (Best.sums rfl bs3 (mem_givs.mp hgm)).1
        rw [prof_sum m3, prof_sum hgm] at *
        exact Int.le_antisymm a1 a2
      have v12 := v11.xo x12
      replace hcd := hcd.xo x12 vokL
      replace s1 := x12.sT s1
      replace s2 := x12.sT s2
      replace s3 := x12.sT s3
      clear hF hp v11 x12 hM hMx
      -- the profiles turned
      refine sq_set (rd_dct (T := T) (K := K) (P := P) (w := w) vokL rfl v12.E v12.G (by omega) (fun x => rfl) (fun x => rfl) (fun H1 q g Q' x hg hq h => rd_turn (T := T) n rfl rfl (hcd.xo x vokL) hg hq (fun x => ⟨rfl, rfl⟩) h) fun H13 td x13 htd => ?_)
      have v13 := v12.xo x13
      replace hcd := hcd.xo x13 vokL
      replace s2 := x13.sT s2
      replace s3 := x13.sT s3
      clear v12 x13 s1
      -- fewest_lasts
      have tbm : ∀ {g : List (Option Nat)}, (prof ls g).sum = M → decide (V.int ((prof ls g).sum) = V.int M) = true := fun {g} h => decide_eq_true (congrArg V.int h)
      refine sq_if (rd_sumC rfl rfl hcd m2 s2 ⟨_, rfl, ne_int M2 ⟨_, rfl, iteF ?_⟩⟩)
      refine rd_ix rfl rfl htd m2 s2 fun v hv => ?_
      obtain ⟨c1, rfl, hc1⟩ := hv
      refine cb1 (rd_comp (T := T) (K := K) (tb := fun g => decide (V.int ((prof ls g).sum) = V.int M)) (VR := vrL (trn ls)) vokL rfl v13.E v13.G (by omega) (fun x => rfl) (fun H1 q g Q' x hg hq h => rd_sumC rfl rfl (hcd.xo x vokL) hg hq ⟨_, rfl, rfl, _, rfl, h⟩) (fun H1 q g Q' x hg hq h => rd_ix rfl rfl (htd.xo x vokL) hg hq fun v hv => h H1 v .refl hv) fun H14 D vs x14 hF hp => ?_)
      have f2 : g2 ∈ (givs ls).filter fun g => decide (V.int ((prof ls g).sum) = V.int M) := List.mem_filter.mpr ⟨m2, tbm M2⟩
      refine max_of (n := longest ls) hF hp (List.ne_nil_of_mem f2) (fun g _ => by rw [List.length_map, List.length_reverse, prof_len]) fun p g hg hpH hmx => ?_
      have hg' := List.mem_filter.mp hg
      have gM : (prof ls g).sum = M := V.int.inj (of_decide_eq_true hg'.2)
      have e1 : trn ls g2 = trn ls g := lexL_total _ _ ((Best.lasts rfl rfl bs2 (mem_givs.mp hg'.1)).2 (by rw [← prof_sum hg'.1, ← prof_sum m2, gM, M2])) (hmx g2 f2)
      refine ne_same (x14.sT (SqT.of hc1)) (SqT.of hpH) e1 ⟨_, rfl, iteF ?_⟩
      have v14 := v13.xo x14
      replace hcd := hcd.xo x14 vokL
      replace htd := htd.xo x14 vokL
      replace s3 := x14.sT s3
      clear hc1 hF hp hpH hmx hg hg' gM e1 v13 x14 s2
      -- the sums of places
      refine sq_set (rd_dct (T := T) (K := K) (P := P) (w := w) vokI rfl v14.E v14.G (by omega) (fun x => rfl) (fun x => rfl) (fun H1 q g Q' x hg hq h => rd_psum (T := T) n rfl rfl (hcd.xo x vokL) hg hq (fun x => ⟨rfl, rfl, rfl, rfl⟩) h) fun H15 sd x15 hsd => ?_)
      have v15 := v14.xo x15
      replace hcd := hcd.xo x15 vokL
      replace htd := htd.xo x15 vokL
      replace s3 := x15.sT s3
      clear v14 x15
      -- least_sum
      refine sq_if ⟨_, rfl, t3, g3, rfl, s3, by rw [bs3.1.len]; omega, fun H16 x16 => ⟨_, rfl, ne_int (by rw [many_some bs3.1, ← prof_sum m3, M3]) ⟨_, rfl, iteF ?_⟩⟩⟩
      have v16 := v15.xo x16
      replace hcd := hcd.xo x16 vokL
      replace htd := htd.xo x16 vokL
      replace hsd := hsd.xo x16 vokI
      replace s3 := x16.sT s3
      clear v15 x16
      refine rd_ix rfl rfl hsd m3 s3 fun v hv => ?_
      obtain rfl : v = .int (placeSum ls g3) := hv
      refine cb1 (rd_comp (T := T) (K := K) (tb := fun g => decide (V.int ((prof ls g).sum) = V.int M)) (VR := vrI (placeSum ls)) vokI rfl v16.E v16.G (by omega) (fun x => rfl) (fun H1 q g Q' x hg hq h => rd_sumC rfl rfl (hcd.xo x vokL) hg hq ⟨_, rfl, rfl, _, rfl, h⟩) (fun H1 q g Q' x hg hq h => rd_ix rfl rfl (hsd.xo x vokI) hg hq fun v hv => h H1 v .refl hv) fun H17 D vs x17 hF hp => ?_)
      have f3 : g3 ∈ (givs ls).filter fun g => decide (V.int ((prof ls g).sum) = V.int M) := List.mem_filter.mpr ⟨m3, tbm M3⟩
      rw [ints_pair hp] at hF
      refine ⟨D, _, rfl, SqL.of hF, by rw [List.length_map]; exact List.length_pos_iff.mpr (List.ne_nil_of_mem f3), fun m hm hmn => ?_⟩
      have em : placeSum ls g3 = m := by
        obtain ⟨gm, hgm, rfl⟩ := List.mem_map.mp hm
        have hg' := List.mem_filter.mp hgm
        have gM : (prof ls gm).sum = M := V.int.inj (of_decide_eq_true hg'.2)
        exact Int.le_antisymm ((Best.sums rfl bs3 (mem_givs.mp hg'.1)).2 (by rw [← prof_sum hg'.1, ← prof_sum m3, gM, M3])) (hmn _ (List.mem_map.mpr ⟨g3, f3, rfl⟩))
      refine ne_int em ⟨_, rfl, iteF ?_⟩
      have v17 := v16.xo x17
      replace hcd := hcd.xo x17 vokL
      replace htd := htd.xo x17 vokL
      replace hsd := hsd.xo x17 vokI
      clear hF hp hm hmn em v16 x17 s3
      -- one of them all
      obtain ⟨xd, yd, zd, hdd⟩ := v17.D
      have hpos : 0 < qs.length := by rw [hqz]; exact List.length_pos_iff.mpr gne
      refine sq_set ⟨_, rfl, _, rfl, _, rfl, e, _, rfl, .inl (SqL.of v17.E), d, qs.length, xd, yd, zd, by rw [List.length_map]; rfl, hpos, by omega, hdd, fun H18 x' y' z' r x18 hd' hr => ?_⟩
      have v18 := v17.roll x18 hdd hd' hAd hed hld
      replace hcd := hcd.rollL x18 hdd
      replace htd := htd.rollL x18 hdd
      replace hsd := hsd.rollI x18 hdd
      clear v17 x18 hdd
      obtain ⟨t, et⟩ : ∃ t, qs[r]? = some t := ⟨_, List.getElem?_eq_getElem hr⟩
      obtain ⟨g, eg, st⟩ := paired_get v18.G et
      have hg := List.mem_of_getElem? eg
      refine ⟨e, _, _, .ref t, rfl, rfl, SqL.of v18.E, atI_nat (by rw [List.getElem?_map, et]; rfl), ?_⟩
      refine sq_if1 (rd_last (T := T) (K := K) v18 n rfl rfl rfl rfl rfl hcd htd hsd hg st fun H19 v19 => iteF ?_)
      exact ⟨v19.R, fun z => nomatch z⟩
    · exact rd_wts (T := T) (K := K) q
end
end G3

set_option Elab.async false
set_option linter.all false
set_option maxRecDepth 100000
set_option maxHeartbeats 4000000
namespace G3
open PySem PySem.Spec PyProof.Rows L2
/-! ### what the top has written, the head -/
/-- the law's walk; of each recorded def it is known that its table is empty -/
theorem walk_mine {l : PySem.W.OpenLaw} {n k : Nat} {q : Program} {loose : List Str} {XP : (Str → Option Value) → Heap → Prop} {YP : World → Heap → Prop} {d : DefRec} {K : Params → PySem.W.Frag} {x : Str} (h1 : l.most = some n) (h2 : n ≤ sizeLine) (h3 : d.params.defaults = []) (h4 : Room k callerA) (h5 : ∀ (w : World) (h : Heap), YP w h → (K w.params).In h)
    (F : ∀ (w : World) (mg : Str → Option Value) (fa : Addr) (h : Heap), YP w h → (K w.params).In h → h.Ns mainGlobals mg → mg d.name = some (.ref fa) → (∀ (y : Str) (fy : Addr), ((recsOf q).any fun e => e.name == y) = true → mg y = some (.ref fy) → LamX.OwnTab (K w.params) fy h) → LamX.LawAtS l w (K w.params) CX0 k n x mg fa h) :
    PySem.W.WalkO q loose XP YP l.row.toRowW d [] (fun f vs => PySem.call f vs) := by
  refine Att.attach_callB h1 h3 fun w s0 s1 mg mb fa o pm cd doc a vs ns G Y ho hd hcd hmg hobj hints hlen hbits hg => ?_
  have own : ∀ (y : Str) (fy : Addr), ((recsOf q).any fun e => e.name == y) = true → mg y = some (.ref fy) → LamX.OwnTab (K w.params) fy s1.heap := fun y fy hy hf c P o1 fd1 e dd vs1 sl k1 k2 k3 k4 k5 => by
    obtain ⟨dL, hm, hn1⟩ := List.any_eq_true.mp hy
    obtain ⟨a', o', fd', c', P', j1, j2, j3, j4, j5, ⟨oc, vc, e1, _, e3, e4⟩, hP⟩ := G.T.tab dL hm
    have g1 := (h5 w _ Y) _ _ k1
    have g2 := (h5 w _ Y) _ _ k4
    obtain rfl : fy = a' := by
      rw [beq_iff_eq.mp hn1, hf] at j1
      injection j1 with j
      injection j
    obtain rfl := Option.some.inj (g1.symm.trans j2)
    rw [k2] at j3
    obtain rfl : fd1 = fd' := by injection j3
    obtain rfl : c = c' := by
      rw [k3] at j4
      injection j4
    obtain rfl := Option.some.inj (g2.symm.trans e1)
    obtain rfl : vs1 = vc := by injection e3
    obtain rfl : P = P' := by
      rw [k5] at e4
      injection e4 with j
      injection j
    exact hP
  obtain ⟨fd, cs, sp, hT, nT, C, hb, hsp, hF⟩ := F w mg fa _ Y (h5 w _ Y) G.T.g hmg own
  exact LamX.law_callTs (h5 w _ Y) G.T.g G.T.b G.T.builtins G.T.nolimit hg hT nT C G.T.bmain hobj hints (Nat.le_trans hlen h2) h4 hF hb (fun H hH hS => hsp H a ns hlen hbits hH hS) fun _ _ _ z => z
theorem tabG_of {H : Hp} {P : Addr} (h : H P = some (.tbl #[])) : GxR.TabG H P := ⟨#[], h, trivial⟩
theorem tabS_of {H : Hp} {P : Addr} {q : Str} (h : H P = some (.tbl #[])) : LamX.TabS H P q := ⟨#[], h, trivial, fun pos cv hc => by cases hc⟩
theorem all_mk {l : PySem.W.OpenLaw} {w : World} {K : PySem.W.Frag} {h : Heap} {mg : Str → Option Value} (X : K.In h) (G : h.Ns mainGlobals mg) {fa C fCk fWo fPa fPr fWe fBy fFi fLa fLe fRe fPl fMa fXf fXd fXr fXo fXl fXg fXp fXw fIn fPu fLo fSh cCk PCk cWo PWo cPl PPl cPu PPu : Addr} (hfa : mg "law" = some (.ref fa))
    {odCk anCk odWo anWo odPa anPa odPr anPr odWe anWe odBy anBy odFi anFi odLa anLa odLe anLe odRe anRe odPl anPl odMa anMa odXf anXf odXd anXd odXr anXr odXo anXo odXl anXl odXg anXg odXp anXp odXw anXw odIn anIn odPu anPu odLo anLo odSh anSh ddCk ddWo ddPl ddPu : Option Addr} {slCk slWo slPa slPr slWe slBy slFi slLa slLe slRe slPl slMa slXf slXd slXr slXo slXl slXg slXp slXw slIn slPu slLo slSh scCk scWo scPl scPu : Array (Option Value)} {ocCk kVCk dcCk pmCk ctCk ocWo kVWo dcWo pmWo ctWo ocPa kVPa dcPa pmPa ctPa cdPa ocPr kVPr dcPr pmPr ctPr cdPr ocWe kVWe dcWe pmWe ctWe cdWe ocBy kVBy dcBy pmBy ctBy cdBy ocFi kVFi dcFi pmFi ctFi cdFi ocLa kVLa dcLa pmLa ctLa cdLa ocLe kVLe dcLe pmLe ctLe cdLe ocRe kVRe dcRe pmRe ctRe cdRe ocPl kVPl dcPl pmPl ctPl ocMa kVMa dcMa pmMa ctMa cdMa ocXf kVXf dcXf pmXf ctXf cdXf ocXd kVXd dcXd pmXd ctXd cdXd ocXr kVXr dcXr pmXr ctXr cdXr ocXo kVXo dcXo pmXo ctXo cdXo ocXl kVXl dcXl pmXl ctXl cdXl ocXg kVXg dcXg pmXg ctXg cdXg ocXp kVXp dcXp pmXp ctXp cdXp ocXw kVXw dcXw pmXw ctXw cdXw ocIn kVIn dcIn pmIn ctIn cdIn ocPu kVPu dcPu pmPu ctPu ocLo kVLo dcLo pmLo ctLo cdLo ocSh kVSh dcSh pmSh ctSh cdSh ecCk ecWo ecPl ecPu : Value} {vsCk vsWo vsPl vsPu : Array Value}
    (own : ∀ (y : Str) (fy : Addr), y = "check_list" ∨ y = "check_worths" ∨ y = "sum_of_places" → mg y = some (.ref fy) → LamX.OwnTab K fy h) (tp : h.get? PPu = some { cls := .none, data := .fields #[] })
    (aCk : PySem.W.nsIn K mainGlobals "check_list" = some (some (.ref fCk)))
    (lCk : K.lookup fCk = some ⟨ocCk, odCk, .func (PySem.W.fnOf "check_list" "check_list" (defArgs sCheck) (defBody sCheck) (defScope sCheck) .none kVCk dcCk pmCk anCk (.ref cCk) ctCk), slCk⟩)
    (cCk' : PySem.W.codeIn K (.ref cCk) "check_list" = true)
    (kCk : PySem.W.keepIn K (.ref fCk) = true)
    (lcCk : K.lookup cCk = some ⟨ecCk, ddCk, .fields vsCk, scCk⟩)
    (vpCk : vsCk[11]? = some (.ref PCk))
    (chCk : PySem.W.codeHdIn K cCk PCk = true)
    (npCk : K.lookup PCk = none)
    (aWo : PySem.W.nsIn K mainGlobals "check_worths" = some (some (.ref fWo)))
    (lWo : K.lookup fWo = some ⟨ocWo, odWo, .func (PySem.W.fnOf "check_worths" "check_worths" (defArgs sWorths) (defBody sWorths) (defScope sWorths) .none kVWo dcWo pmWo anWo (.ref cWo) ctWo), slWo⟩)
    (cWo' : PySem.W.codeIn K (.ref cWo) "check_worths" = true)
    (kWo : PySem.W.keepIn K (.ref fWo) = true)
    (lcWo : K.lookup cWo = some ⟨ecWo, ddWo, .fields vsWo, scWo⟩)
    (vpWo : vsWo[11]? = some (.ref PWo))
    (chWo : PySem.W.codeHdIn K cWo PWo = true)
    (npWo : K.lookup PWo = none)
    (aPa : PySem.W.nsIn K mainGlobals "best_pairs" = some (some (.ref fPa)))
    (lPa : K.lookup fPa = some ⟨ocPa, odPa, .func (PySem.W.fnOf "best_pairs" "best_pairs" (defArgs sPairs) (defBody sPairs) (defScope sPairs) .none kVPa dcPa pmPa anPa cdPa ctPa), slPa⟩)
    (cPa : PySem.W.codeIn K cdPa "best_pairs" = true)
    (kPa : PySem.W.keepIn K (.ref fPa) = true)
    (aPr : PySem.W.nsIn K mainGlobals "profile" = some (some (.ref fPr)))
    (lPr : K.lookup fPr = some ⟨ocPr, odPr, .func (PySem.W.fnOf "profile" "profile" (defArgs sProfile) (defBody sProfile) (defScope sProfile) .none kVPr dcPr pmPr anPr cdPr ctPr), slPr⟩)
    (cPr : PySem.W.codeIn K cdPr "profile" = true)
    (kPr : PySem.W.keepIn K (.ref fPr) = true)
    (aWe : PySem.W.nsIn K mainGlobals "weights" = some (some (.ref fWe)))
    (lWe : K.lookup fWe = some ⟨ocWe, odWe, .func (PySem.W.fnOf "weights" "weights" (defArgs sWeights) (defBody sWeights) (defScope sWeights) .none kVWe dcWe pmWe anWe cdWe ctWe), slWe⟩)
    (cWe : PySem.W.codeIn K cdWe "weights" = true)
    (kWe : PySem.W.keepIn K (.ref fWe) = true)
    (aBy : PySem.W.nsIn K mainGlobals "by_weights" = some (some (.ref fBy)))
    (lBy : K.lookup fBy = some ⟨ocBy, odBy, .func (PySem.W.fnOf "by_weights" "by_weights" (defArgs sBy) (defBody sBy) (defScope sBy) .none kVBy dcBy pmBy anBy cdBy ctBy), slBy⟩)
    (cBy : PySem.W.codeIn K cdBy "by_weights" = true)
    (kBy : PySem.W.keepIn K (.ref fBy) = true)
    (aFi : PySem.W.nsIn K mainGlobals "most_firsts" = some (some (.ref fFi)))
    (lFi : K.lookup fFi = some ⟨ocFi, odFi, .func (PySem.W.fnOf "most_firsts" "most_firsts" (defArgs sFirsts) (defBody sFirsts) (defScope sFirsts) .none kVFi dcFi pmFi anFi cdFi ctFi), slFi⟩)
    (cFi : PySem.W.codeIn K cdFi "most_firsts" = true)
    (kFi : PySem.W.keepIn K (.ref fFi) = true)
    (aLa : PySem.W.nsIn K mainGlobals "fewest_lasts" = some (some (.ref fLa)))
    (lLa : K.lookup fLa = some ⟨ocLa, odLa, .func (PySem.W.fnOf "fewest_lasts" "fewest_lasts" (defArgs sLasts) (defBody sLasts) (defScope sLasts) .none kVLa dcLa pmLa anLa cdLa ctLa), slLa⟩)
    (cLa : PySem.W.codeIn K cdLa "fewest_lasts" = true)
    (kLa : PySem.W.keepIn K (.ref fLa) = true)
    (aLe : PySem.W.nsIn K mainGlobals "least_sum" = some (some (.ref fLe)))
    (lLe : K.lookup fLe = some ⟨ocLe, odLe, .func (PySem.W.fnOf "least_sum" "least_sum" (defArgs sLeast) (defBody sLeast) (defScope sLeast) .none kVLe dcLe pmLe anLe cdLe ctLe), slLe⟩)
    (cLe : PySem.W.codeIn K cdLe "least_sum" = true)
    (kLe : PySem.W.keepIn K (.ref fLe) = true)
    (aRe : PySem.W.nsIn K mainGlobals "reversed_profile" = some (some (.ref fRe)))
    (lRe : K.lookup fRe = some ⟨ocRe, odRe, .func (PySem.W.fnOf "reversed_profile" "reversed_profile" (defArgs sRev) (defBody sRev) (defScope sRev) .none kVRe dcRe pmRe anRe cdRe ctRe), slRe⟩)
    (cRe : PySem.W.codeIn K cdRe "reversed_profile" = true)
    (kRe : PySem.W.keepIn K (.ref fRe) = true)
    (aPl : PySem.W.nsIn K mainGlobals "sum_of_places" = some (some (.ref fPl)))
    (lPl : K.lookup fPl = some ⟨ocPl, odPl, .func (PySem.W.fnOf "sum_of_places" "sum_of_places" (defArgs sPlaces) (defBody sPlaces) (defScope sPlaces) .none kVPl dcPl pmPl anPl (.ref cPl) ctPl), slPl⟩)
    (cPl' : PySem.W.codeIn K (.ref cPl) "sum_of_places" = true)
    (kPl : PySem.W.keepIn K (.ref fPl) = true)
    (lcPl : K.lookup cPl = some ⟨ecPl, ddPl, .fields vsPl, scPl⟩)
    (vpPl : vsPl[11]? = some (.ref PPl))
    (chPl : PySem.W.codeHdIn K cPl PPl = true)
    (npPl : K.lookup PPl = none)
    (aMa : PySem.W.nsIn K mainGlobals "how_many" = some (some (.ref fMa)))
    (lMa : K.lookup fMa = some ⟨ocMa, odMa, .func (PySem.W.fnOf "how_many" "how_many" (defArgs sMany) (defBody sMany) (defScope sMany) .none kVMa dcMa pmMa anMa cdMa ctMa), slMa⟩)
    (cMa : PySem.W.codeIn K cdMa "how_many" = true)
    (kMa : PySem.W.keepIn K (.ref fMa) = true)
    (aXf : PySem.W.nsIn K mainGlobals "_law_flat" = some (some (.ref fXf)))
    (lXf : K.lookup fXf = some ⟨ocXf, odXf, .func (PySem.W.fnOf "_law_flat" "_law_flat" (defArgs sFlat) (defBody sFlat) (defScope sFlat) .none kVXf dcXf pmXf anXf cdXf ctXf), slXf⟩)
    (cXf : PySem.W.codeIn K cdXf "_law_flat" = true)
    (kXf : PySem.W.keepIn K (.ref fXf) = true)
    (aXd : PySem.W.nsIn K mainGlobals "_law_dice" = some (some (.ref fXd)))
    (lXd : K.lookup fXd = some ⟨ocXd, odXd, .func (PySem.W.fnOf "_law_dice" "_law_dice" (defArgs sDice) (defBody sDice) (defScope sDice) .none kVXd dcXd pmXd anXd cdXd ctXd), slXd⟩)
    (cXd : PySem.W.codeIn K cdXd "_law_dice" = true)
    (kXd : PySem.W.keepIn K (.ref fXd) = true)
    (aXr : PySem.W.nsIn K mainGlobals "_law_roll" = some (some (.ref fXr)))
    (lXr : K.lookup fXr = some ⟨ocXr, odXr, .func (PySem.W.fnOf "_law_roll" "_law_roll" (defArgs sRoll) (defBody sRoll) (defScope sRoll) .none kVXr dcXr pmXr anXr cdXr ctXr), slXr⟩)
    (cXr : PySem.W.codeIn K cdXr "_law_roll" = true)
    (kXr : PySem.W.keepIn K (.ref fXr) = true)
    (aXo : PySem.W.nsIn K mainGlobals "_law_rounds" = some (some (.ref fXo)))
    (lXo : K.lookup fXo = some ⟨ocXo, odXo, .func (PySem.W.fnOf "_law_rounds" "_law_rounds" (defArgs sRounds) (defBody sRounds) (defScope sRounds) .none kVXo dcXo pmXo anXo cdXo ctXo), slXo⟩)
    (cXo : PySem.W.codeIn K cdXo "_law_rounds" = true)
    (kXo : PySem.W.keepIn K (.ref fXo) = true)
    (aXl : PySem.W.nsIn K mainGlobals "_law_list" = some (some (.ref fXl)))
    (lXl : K.lookup fXl = some ⟨ocXl, odXl, .func (PySem.W.fnOf "_law_list" "_law_list" (defArgs sList) (defBody sList) (defScope sList) .none kVXl dcXl pmXl anXl cdXl ctXl), slXl⟩)
    (cXl : PySem.W.codeIn K cdXl "_law_list" = true)
    (kXl : PySem.W.keepIn K (.ref fXl) = true)
    (aXg : PySem.W.nsIn K mainGlobals "_law_givings" = some (some (.ref fXg)))
    (lXg : K.lookup fXg = some ⟨ocXg, odXg, .func (PySem.W.fnOf "_law_givings" "_law_givings" (defArgs sGivings) (defBody sGivings) (defScope sGivings) .none kVXg dcXg pmXg anXg cdXg ctXg), slXg⟩)
    (cXg : PySem.W.codeIn K cdXg "_law_givings" = true)
    (kXg : PySem.W.keepIn K (.ref fXg) = true)
    (aXp : PySem.W.nsIn K mainGlobals "_law_profile" = some (some (.ref fXp)))
    (lXp : K.lookup fXp = some ⟨ocXp, odXp, .func (PySem.W.fnOf "_law_profile" "_law_profile" (defArgs sLProfile) (defBody sLProfile) (defScope sLProfile) .none kVXp dcXp pmXp anXp cdXp ctXp), slXp⟩)
    (cXp : PySem.W.codeIn K cdXp "_law_profile" = true)
    (kXp : PySem.W.keepIn K (.ref fXp) = true)
    (aXw : PySem.W.nsIn K mainGlobals "law" = some (some (.ref fXw)))
    (lXw : K.lookup fXw = some ⟨ocXw, odXw, .func (PySem.W.fnOf "law" "law" (defArgs sLaw) (defBody sLaw) (defScope sLaw) .none kVXw dcXw pmXw anXw cdXw ctXw), slXw⟩)
    (cXw : PySem.W.codeIn K cdXw "law" = true)
    (kXw : PySem.W.keepIn K (.ref fXw) = true)
    (aC : PySem.W.nsIn K mainGlobals "Search" = some (some (.ref C)))
    (aIn : PySem.W.findIn K (.ref C) "__init__" = some (some (.ref fIn)))
    (iIn : PySem.W.isFn K (.ref fIn) = true)
    (lIn : K.lookup fIn = some ⟨ocIn, odIn, .func (PySem.W.fnOf "__init__" "Search.__init__" (defArgs sInit) (defBody sInit) (defScope sInit) .none kVIn dcIn pmIn anIn cdIn ctIn), slIn⟩)
    (cIn : PySem.W.codeIn K cdIn "Search.__init__" = true)
    (kIn : PySem.W.keepIn K (.ref fIn) = true)
    (aPu : PySem.W.findIn K (.ref C) "put_in" = some (some (.ref fPu)))
    (iPu : PySem.W.isFn K (.ref fPu) = true)
    (lPu : K.lookup fPu = some ⟨ocPu, odPu, .func (PySem.W.fnOf "put_in" "Search.put_in" (defArgs sPut) (defBody sPut) (defScope sPut) .none kVPu dcPu pmPu anPu (.ref cPu) ctPu), slPu⟩)
    (cPu' : PySem.W.codeIn K (.ref cPu) "Search.put_in" = true)
    (kPu : PySem.W.keepIn K (.ref fPu) = true)
    (lcPu : K.lookup cPu = some ⟨ecPu, ddPu, .fields vsPu, scPu⟩)
    (vpPu : vsPu[11]? = some (.ref PPu))
    (chPu : PySem.W.codeHdIn K cPu PPu = true)
    (npPu : K.lookup PPu = none)
    (aLo : PySem.W.findIn K (.ref C) "look" = some (some (.ref fLo)))
    (iLo : PySem.W.isFn K (.ref fLo) = true)
    (lLo : K.lookup fLo = some ⟨ocLo, odLo, .func (PySem.W.fnOf "look" "Search.look" (defArgs sLook) (defBody sLook) (defScope sLook) .none kVLo dcLo pmLo anLo cdLo ctLo), slLo⟩)
    (cLo : PySem.W.codeIn K cdLo "Search.look" = true)
    (kLo : PySem.W.keepIn K (.ref fLo) = true)
    (aSh : PySem.W.findIn K (.ref C) "shift" = some (some (.ref fSh)))
    (iSh : PySem.W.isFn K (.ref fSh) = true)
    (lSh : K.lookup fSh = some ⟨ocSh, odSh, .func (PySem.W.fnOf "shift" "Search.shift" (defArgs sShift) (defBody sShift) (defScope sShift) .none kVSh dcSh pmSh anSh cdSh ctSh), slSh⟩)
    (cSh : PySem.W.codeIn K cdSh "Search.shift" = true)
    (kSh : PySem.W.keepIn K (.ref fSh) = true)
    (pg : PySem.W.plainGet K C Str.empty = true)
    (hd : PySem.W.hasDictIn K C = true)
    (po : PySem.W.plainOver K C = true)
    (sa : PySem.W.findIn K (.ref C) "__setattr__" = some (some (.builtin "object.__setattr__")))
    (mk : PySem.W.makesIn K C = true)
    (kc : PySem.W.keepIn K (.ref C) = true)
    (n1 : PySem.W.findIn K (.ref C) "wide" = some none)
    (n2 : PySem.W.findIn K (.ref C) "many" = some none)
    (n3 : PySem.W.findIn K (.ref C) "costs" = some none)
    (n4 : PySem.W.findIn K (.ref C) "left" = some none)
    (n5 : PySem.W.findIn K (.ref C) "right" = some none)
    (n6 : PySem.W.findIn K (.ref C) "owner" = some none)
    (z_len : PySem.W.nsIn K mainGlobals "len" = some none)
    (z_dict : PySem.W.nsIn K mainGlobals "dict" = some none)
    (z_tuple : PySem.W.nsIn K mainGlobals "tuple" = some none)
    (z_any : PySem.W.nsIn K mainGlobals "any" = some none)
    (z_range : PySem.W.nsIn K mainGlobals "range" = some none)
    (z_min : PySem.W.nsIn K mainGlobals "min" = some none)
    (z_max : PySem.W.nsIn K mainGlobals "max" = some none)
    (z_enumerate : PySem.W.nsIn K mainGlobals "enumerate" = some none)
    (z_list : PySem.W.nsIn K mainGlobals "list" = some none)
    (z_reversed : PySem.W.nsIn K mainGlobals "reversed" = some none)
    (z_sum : PySem.W.nsIn K mainGlobals "sum" = some none)
    (z_abs : PySem.W.nsIn K mainGlobals "abs" = some none)
    (z_int : PySem.W.nsIn K mainGlobals "int" = some none)
    (nePCk : PCk ≠ PPu)
    (nePWo : PWo ≠ PPu)
    (nePPl : PPl ≠ PPu)
    : LamX.LawAtS l w K CX0 6 63 "_law_script" mg fa h := by
  have e := hfa.symm.trans (PySem.W.mg_of X G aXw)
  cases e
  have FCk := fun_mk (st := sCheck) lCk cCk' kCk
  have FWo := fun_mk (st := sWorths) lWo cWo' kWo
  have FPa := fun_mk (st := sPairs) lPa cPa kPa
  have FPr := fun_mk (st := sProfile) lPr cPr kPr
  have FWe := fun_mk (st := sWeights) lWe cWe kWe
  have FBy := fun_mk (st := sBy) lBy cBy kBy
  have FFi := fun_mk (st := sFirsts) lFi cFi kFi
  have FLa := fun_mk (st := sLasts) lLa cLa kLa
  have FLe := fun_mk (st := sLeast) lLe cLe kLe
  have FRe := fun_mk (st := sRev) lRe cRe kRe
  have FPl := fun_mk (st := sPlaces) lPl cPl' kPl
  have FMa := fun_mk (st := sMany) lMa cMa kMa
  have FXf := fun_mk (st := sFlat) lXf cXf kXf
  have FXd := fun_mk (st := sDice) lXd cXd kXd
  have FXr := fun_mk (st := sRoll) lXr cXr kXr
  have FXo := fun_mk (st := sRounds) lXo cXo kXo
  have FXl := fun_mk (st := sList) lXl cXl kXl
  have FXg := fun_mk (st := sGivings) lXg cXg kXg
  have FXp := fun_mk (st := sLProfile) lXp cXp kXp
  have FXw := fun_mk (st := sLaw) lXw cXw kXw
  have FIn := fun_mk (st := sInit) lIn cIn kIn
  have FPu := fun_mk (st := sPut) lPu cPu' kPu
  have FLo := fun_mk (st := sLook) lLo cLo kLo
  have FSh := fun_mk (st := sShift) lSh cSh kSh
  have bCk := FCk.binds (ps := ["order", "many"]) fun _ _ _ _ _ _ us hl => match us, hl with | [_, _], _ => rfl
  have bWo := FWo.binds (ps := ["rows"]) fun _ _ _ _ _ _ us hl => match us, hl with | [_], _ => rfl
  have bPa := FPa.binds (ps := ["rows"]) fun _ _ _ _ _ _ us hl => match us, hl with | [_], _ => rfl
  have bPr := FPr.binds (ps := ["lists", "given"]) fun _ _ _ _ _ _ us hl => match us, hl with | [_, _], _ => rfl
  have bWe := FWe.binds (ps := ["count", "base", "up"]) fun _ _ _ _ _ _ us hl => match us, hl with | [_, _, _], _ => rfl
  have bBy := FBy.binds (ps := ["lists", "many", "weight"]) fun _ _ _ _ _ _ us hl => match us, hl with | [_, _, _], _ => rfl
  have bFi := FFi.binds (ps := ["lists", "many"]) fun _ _ _ _ _ _ us hl => match us, hl with | [_, _], _ => rfl
  have bLa := FLa.binds (ps := ["lists", "many"]) fun _ _ _ _ _ _ us hl => match us, hl with | [_, _], _ => rfl
  have bLe := FLe.binds (ps := ["lists", "many"]) fun _ _ _ _ _ _ us hl => match us, hl with | [_, _], _ => rfl
  have bRe := FRe.binds (ps := ["lists", "given"]) fun _ _ _ _ _ _ us hl => match us, hl with | [_, _], _ => rfl
  have bPl := FPl.binds (ps := ["lists", "given"]) fun _ _ _ _ _ _ us hl => match us, hl with | [_, _], _ => rfl
  have bMa := FMa.binds (ps := ["given"]) fun _ _ _ _ _ _ us hl => match us, hl with | [_], _ => rfl
  have bXf := FXf.binds (ps := ["_law_rows"]) fun _ _ _ _ _ _ us hl => match us, hl with | [_], _ => rfl
  have bXd := FXd.binds (ps := ["_law_cell"]) fun _ _ _ _ _ _ us hl => match us, hl with | [_], _ => rfl
  have bXr := FXr.binds (ps := ["_law_dice_here", "_law_many"]) fun _ _ _ _ _ _ us hl => match us, hl with | [_, _], _ => rfl
  have bXo := FXo.binds (ps := ["_law_script", "_law_most_now"]) fun _ _ _ _ _ _ us hl => match us, hl with | [_, _], _ => rfl
  have bXl := FXl.binds (ps := ["_law_dice_here", "_law_many"]) fun _ _ _ _ _ _ us hl => match us, hl with | [_, _], _ => rfl
  have bXg := FXg.binds (ps := ["_law_lists"]) fun _ _ _ _ _ _ us hl => match us, hl with | [_], _ => rfl
  have bXp := FXp.binds (ps := ["_law_lists", "_law_given"]) fun _ _ _ _ _ _ us hl => match us, hl with | [_, _], _ => rfl
  have bXw := FXw.binds (ps := ["_law_script"]) fun _ _ _ _ _ _ us hl => match us, hl with | [_], _ => rfl
  have bIn := FIn.binds (ps := ["self", "rows"]) fun _ _ _ _ _ _ us hl => match us, hl with | [_, _], _ => rfl
  have bPu := FPu.binds (ps := ["self", "row"]) fun _ _ _ _ _ _ us hl => match us, hl with | [_, _], _ => rfl
  have bLo := FLo.binds (ps := ["self", "here", "column", "used", "best", "came"]) fun _ _ _ _ _ _ us hl => match us, hl with | [_, _, _, _, _, _], _ => rfl
  have bSh := FSh.binds (ps := ["self", "row", "used", "best", "step"]) fun _ _ _ _ _ _ us hl => match us, hl with | [_, _, _, _, _], _ => rfl
  have BB : Blt mg := ⟨PySem.W.mg_none_of X G z_len, PySem.W.mg_none_of X G z_dict, PySem.W.mg_none_of X G z_tuple, PySem.W.mg_none_of X G z_any, PySem.W.mg_none_of X G z_range, PySem.W.mg_none_of X G z_min, PySem.W.mg_none_of X G z_max, PySem.W.mg_none_of X G z_enumerate, PySem.W.mg_none_of X G z_list, PySem.W.mg_none_of X G z_reversed, PySem.W.mg_none_of X G z_sum, PySem.W.mg_none_of X G z_abs, PySem.W.mg_none_of X G z_int⟩
  have TX : TxS K mg C := ⟨⟨pg, hd, po, sa⟩, n1, n2, n3, n4, n5, n6, PySem.W.mg_of X G aC⟩
  let T : TbA := ⟨PCk, PWo, PPl, PPu, (("Search.put_in" : Str) ++ ".<locals>.") ++ "<lambda>"⟩
  refine ⟨PySem.W.fnOf "law" "law" (defArgs sLaw) (defBody sLaw) (defScope sLaw) .none kVXw dcXw pmXw anXw cdXw ctXw, [(cCk, PCk), (cWo, PWo), (cPl, PPl), (cPu, PPu)], spLaw K T, ?_, ?_, ?_, fun s v => .of_eq rfl, fun H a ns _ _ hH hS => ?_, fun base _ _ hb => ?_⟩
  · intro p hp
    simp only [List.mem_cons, List.not_mem_nil, or_false] at hp
    rcases hp with rfl | rfl | rfl | rfl
    · exact own _ _ (.inl rfl) (PySem.W.mg_of X G aCk) _ _ _ _ _ _ _ _ lCk rfl rfl lcCk vpCk
    · exact own _ _ (.inr (.inl rfl)) (PySem.W.mg_of X G aWo) _ _ _ _ _ _ _ _ lWo rfl rfl lcWo vpWo
    · exact own _ _ (.inr (.inr rfl)) (PySem.W.mg_of X G aPl) _ _ _ _ _ _ _ _ lPl rfl rfl lcPl vpPl
    · exact tp
  · intro p hp
    simp only [List.mem_cons, List.not_mem_nil, or_false] at hp
    rcases hp with rfl | rfl | rfl | rfl
    · exact npCk
    · exact npWo
    · exact npPl
    · exact npPu
  · intro p hp
    simp only [List.mem_cons, List.not_mem_nil, or_false] at hp
    rcases hp with rfl | rfl | rfl | rfl
    · exact PySem.W.codeHd_of_K X chCk
    · exact PySem.W.codeHd_of_K X chWo
    · exact PySem.W.codeHd_of_K X chPl
    · exact PySem.W.codeHd_of_K X chPu
  · refine ⟨a, ns, rfl, hS, ⟨tabG_of (hH (cCk, PCk) (by simp)), tabG_of (hH (cWo, PWo) (by simp)), tabG_of (hH (cPl, PPl) (by simp)), ?_⟩, fun _ => rfl⟩
    exact tabS_of (hH (cPu, PPu) (by simp))
  · have TB : ∀ {c P : Addr}, LamX.TabB base mg c P → GxR.TabB base mg c P := fun h => ⟨h.code, h.bm, h.gP⟩
    have hCk := TB (hb (cCk, PCk) (by simp))
    have hWo := TB (hb (cWo, PWo) (by simp))
    have hPl := TB (hb (cPl, PPl) (by simp))
    have hPu := hb (cPu, PPu) (by simp)
    have okCk : FnOk l.prog w K mg base CX0 1 fCk _ ["order", "many"] (spCheck K T) := ok_check FCk rfl BB hCk nePCk
    have okPa : FnOk l.prog w K mg base CX0 3 fPa _ ["rows"] (spPairs K T) := ok_pairs FPa BB TX ⟨⟨_, rfl, hWo⟩, nePWo, FWo, bWo, PySem.W.mg_of X G aWo, FIn, bIn, ⟨mk, aIn, iIn, kc⟩, ⟨_, rfl, hPu⟩, rfl, FPu, bPu, ⟨aPu, iPu, kPu⟩, FLo, bLo, ⟨aLo, iLo, kLo⟩, FSh, bSh, ⟨aSh, iSh, kSh⟩⟩
    have okBy : FnOk l.prog w K mg base CX0 4 fBy _ ["lists", "many", "weight"] (spBy K T) := ok_by FBy BB okPa FPa bPa (PySem.W.mg_of X G aPa)
    have okWe : FnOk l.prog w K mg base CX0 1 fWe _ ["count", "base", "up"] (spWeights T) := ok_weights FWe BB
    have Z : Knd K mg base T l.prog w fCk fBy fWe _ _ _ := ⟨okCk, kCk, bCk, PySem.W.mg_of X G aCk, okBy, kBy, bBy, PySem.W.mg_of X G aBy, okWe, kWe, bWe, PySem.W.mg_of X G aWe⟩
    refine ok_law FXw BB ⟨⟨_, _, ok_rounds FXo BB FXd bXd (PySem.W.mg_of X G aXd), kXo, bXo, PySem.W.mg_of X G aXo⟩, ⟨_, _, ok_roll FXr BB, kXr, bXr, PySem.W.mg_of X G aXr⟩, ⟨_, _, ok_list FXl BB FXr bXr (PySem.W.mg_of X G aXr), kXl, bXl, PySem.W.mg_of X G aXl⟩,
      ⟨_, _, ok_givings FXg BB FXf bXf (PySem.W.mg_of X G aXf), kXg, bXg, PySem.W.mg_of X G aXg⟩, ⟨_, _, ok_lprof FXp BB, kXp, bXp, PySem.W.mg_of X G aXp⟩, ⟨_, _, ok_firsts FFi BB Z, kFi, bFi, PySem.W.mg_of X G aFi⟩, ⟨_, _, ok_lasts FLa BB Z, kLa, bLa, PySem.W.mg_of X G aLa⟩, ⟨_, _, ok_least FLe BB Z, kLe, bLe, PySem.W.mg_of X G aLe⟩,
      ⟨_, _, ok_profile FPr BB, kPr, bPr, PySem.W.mg_of X G aPr⟩, ⟨_, _, ok_rev FRe BB FPr bPr (PySem.W.mg_of X G aPr), kRe, bRe, PySem.W.mg_of X G aRe⟩, ⟨_, _, ok_places FPl rfl BB hPl nePPl, kPl, bPl, PySem.W.mg_of X G aPl⟩, ⟨_, _, ok_many FMa BB, kMa, bMa, PySem.W.mg_of X G aMa⟩, ⟨_, _, okWe, kWe, bWe, PySem.W.mg_of X G aWe⟩⟩
end G3

set_option Elab.async false
set_option linter.all false
set_option maxRecDepth 100000
open PySem PySem.W PyProof.Rows in
set_option maxRecDepth 100000 in
set_option maxHeartbeats 0 in
theorem PySem.Challenge.cw_pairmart_k26_givings_best_by_counts_holds : PySem.Challenge.rw_pairmart_k26_givings_best_by_counts.Holds := by
  w_on; o_law; k_head; (case hw => w_witness2)
  k_fill
  refine G3.walk_mine (l := PySem.Challenge.rw_pairmart_k26_givings_best_by_counts) (n := 63) (k := 6) (x := "_law_script") rfl (by decide) rfl ⟨rfl, by decide, by decide⟩ (fun w h Y => PySem.W.km_in_of Y) ?F
  case F =>
    intro w mg fa h Y KX G hmg own
    have tabs := PySem.W.km_tabs_of Y
    refine' G3.all_mk KX G hmg ?own ?tp ?aCk ?lCk ?cCk_q ?kCk ?lcCk ?vpCk ?chCk ?npCk ?aWo ?lWo ?cWo_q ?kWo ?lcWo ?vpWo ?chWo ?npWo ?aPa ?lPa ?cPa ?kPa ?aPr ?lPr ?cPr ?kPr ?aWe ?lWe ?cWe ?kWe ?aBy ?lBy ?cBy ?kBy ?aFi ?lFi ?cFi ?kFi ?aLa ?lLa ?cLa ?kLa ?aLe ?lLe ?cLe ?kLe ?aRe ?lRe ?cRe ?kRe ?aPl ?lPl ?cPl_q ?kPl ?lcPl ?vpPl ?chPl ?npPl ?aMa ?lMa ?cMa ?kMa ?aXf ?lXf ?cXf ?kXf ?aXd ?lXd ?cXd ?kXd ?aXr ?lXr ?cXr ?kXr ?aXo ?lXo ?cXo ?kXo ?aXl ?lXl ?cXl ?kXl ?aXg ?lXg ?cXg ?kXg ?aXp ?lXp ?cXp ?kXp ?aXw ?lXw ?cXw ?kXw ?aC ?aIn ?iIn ?lIn ?cIn ?kIn ?aPu ?iPu ?lPu ?cPu_q ?kPu ?lcPu ?vpPu ?chPu ?npPu ?aLo ?iLo ?lLo ?cLo ?kLo ?aSh ?iSh ?lSh ?cSh ?kSh ?pg ?hd ?po ?sa ?mk ?kc ?n1 ?n2 ?n3 ?n4 ?n5 ?n6 ?z_len ?z_dict ?z_tuple ?z_any ?z_range ?z_min ?z_max ?z_enumerate ?z_list ?z_reversed ?z_sum ?z_abs ?z_int ?nePCk ?nePWo ?nePPl
    (case aCk => k_is)
    (case lCk => k_is)
    (case cCk_q => k_is)
    (case kCk => k_is)
    (case lcCk => k_is)
    (case vpCk => exact rfl)
    (case chCk => kernel_rfl)
    (case npCk => first | k_is | kernel_rfl)
    (case aWo => k_is)
    (case lWo => k_is)
    (case cWo_q => k_is)
    (case kWo => k_is)
    (case lcWo => k_is)
    (case vpWo => exact rfl)
    (case chWo => kernel_rfl)
    (case npWo => first | k_is | kernel_rfl)
    (case aPa => k_is)
    (case lPa => k_is)
    (case cPa => k_is)
    (case kPa => k_is)
    (case aPr => k_is)
    (case lPr => k_is)
    (case cPr => k_is)
    (case kPr => k_is)
    (case aWe => k_is)
    (case lWe => k_is)
    (case cWe => k_is)
    (case kWe => k_is)
    (case aBy => k_is)
    (case lBy => k_is)
    (case cBy => k_is)
    (case kBy => k_is)
    (case aFi => k_is)
    (case lFi => k_is)
    (case cFi => k_is)
    (case kFi => k_is)
    (case aLa => k_is)
    (case lLa => k_is)
    (case cLa => k_is)
    (case kLa => k_is)
    (case aLe => k_is)
    (case lLe => k_is)
    (case cLe => k_is)
    (case kLe => k_is)
    (case aRe => k_is)
    (case lRe => k_is)
    (case cRe => k_is)
    (case kRe => k_is)
    (case aPl => k_is)
    (case lPl => k_is)
    (case cPl_q => k_is)
    (case kPl => k_is)
    (case lcPl => k_is)
    (case vpPl => exact rfl)
    (case chPl => kernel_rfl)
    (case npPl => first | k_is | kernel_rfl)
    (case aMa => k_is)
    (case lMa => k_is)
    (case cMa => k_is)
    (case kMa => k_is)
    (case aXf => k_is)
    (case lXf => k_is)
    (case cXf => k_is)
    (case kXf => k_is)
    (case aXd => k_is)
    (case lXd => k_is)
    (case cXd => k_is)
    (case kXd => k_is)
    (case aXr => k_is)
    (case lXr => k_is)
    (case cXr => k_is)
    (case kXr => k_is)
    (case aXo => k_is)
    (case lXo => k_is)
    (case cXo => k_is)
    (case kXo => k_is)
    (case aXl => k_is)
    (case lXl => k_is)
    (case cXl => k_is)
    (case kXl => k_is)
    (case aXg => k_is)
    (case lXg => k_is)
    (case cXg => k_is)
    (case kXg => k_is)
    (case aXp => k_is)
    (case lXp => k_is)
    (case cXp => k_is)
    (case kXp => k_is)
    (case aXw => k_is)
    (case lXw => k_is)
    (case cXw => k_is)
    (case kXw => k_is)
    (case aC => k_is)
    (case aIn => k_is)
    (case iIn => k_is)
    (case lIn => k_is)
    (case cIn => k_is)
    (case kIn => k_is)
    (case aPu => k_is)
    (case iPu => k_is)
    (case lPu => k_is)
    (case cPu_q => k_is)
    (case kPu => k_is)
    (case lcPu => k_is)
    (case vpPu => exact rfl)
    (case chPu => kernel_rfl)
    (case npPu => first | k_is | kernel_rfl)
    (case aLo => k_is)
    (case iLo => k_is)
    (case lLo => k_is)
    (case cLo => k_is)
    (case kLo => k_is)
    (case aSh => k_is)
    (case iSh => k_is)
    (case lSh => k_is)
    (case cSh => k_is)
    (case kSh => k_is)
    (case pg => k_is)
    (case hd => k_is)
    (case po => k_is)
    (case sa => k_is)
    (case mk => k_is)
    (case kc => k_is)
    (case n1 => k_is)
    (case n2 => k_is)
    (case n3 => k_is)
    (case n4 => k_is)
    (case n5 => k_is)
    (case n6 => k_is)
    (case z_len => k_is)
    (case z_dict => k_is)
    (case z_tuple => k_is)
    (case z_any => k_is)
    (case z_range => k_is)
    (case z_min => k_is)
    (case z_max => k_is)
    (case z_enumerate => k_is)
    (case z_list => k_is)
    (case z_reversed => k_is)
    (case z_sum => k_is)
    (case z_abs => k_is)
    (case z_int => k_is)
    (case nePCk => decide)
    (case nePWo => decide)
    (case nePPl => decide)
    (case tp => exact tabs _ (by k_mem))
    (case own =>
      intro y fy hy hf
      refine own y fy ?_ hf
      rcases hy with rfl | rfl | rfl <;> kernel_rfl)
