import PyProof.Rows.All
import Wide.All
import OpenK.AllK
import Wide.FinOn
import HandS.ForMost
import PySem.Challenge.RW_marktruly_k52_whole_best_writer
import HandS.Set
import HandS.Strs
import HandS.SetKeys
import HandS.TupSets
import PyProof.Rows.SortShellAny
import KE.DatumOrd
import KE.KDictList
import KE.KExcIs
import KE.GoesEnum
import HandS.Exc
import HandS.ExcIs
import HandS.SlotsOwn
import HandS.Rev
import HandS.Sort
import HandS.Conv
import HandS.RevTup
import KE.GoesZip
import KE.GoesMore
import KE.KRevIter
import HandS.Walk
import HandS.ExcField
import KE.KStateDown
import HandS.WordsExc
import HandS.Defaults
import HandS.ExcInit
import HandS.Head0
import HandS.Head1
import HandS.Head2
import HandS.HeadEnd
import HandS.HeadHook1
import HandS.HeadHook2
import HandS.HeadHook3
import HandS.HeadHook4
import HandS.ExcOwn
import HandS.IsInst
import HandS.Wide
import HandS.WideBits
import HandS.Flow
import HandS.DictComp
import HandS.Replace
import HandS.TryOnly
import HandS.More
import PyProof.TupleOfSeq
import KE.DataEq

section
set_option linter.all false
namespace Mt
/-! sums over 0 .. n - 1 -/
def sm : Nat → (Nat → Int) → Int
  | 0, _ => 0
  | n + 1, g => sm n g + g n
theorem sm_congr : ∀ {n : Nat} {g h : Nat → Int}, (∀ i, i < n → g i = h i) → sm n g = sm n h
  | 0, _, _, _ => rfl
  | n + 1, g, h, e => by
    show sm n g + g n = sm n h + h n
    rw [sm_congr (n := n) fun i hi => e i (by omega), e n (by omega)]
theorem sm_le : ∀ {n : Nat} {g h : Nat → Int}, (∀ i, i < n → g i ≤ h i) → sm n g ≤ sm n h
  | 0, _, _, _ => Int.le_refl _
  | n + 1, g, h, e => by
    have a := sm_le (n := n) fun i hi => e i (by omega)
    have b := e n (by omega)
    show sm n g + g n ≤ sm n h + h n
    omega
theorem sm_zero : ∀ (n : Nat), sm n (fun _ => 0) = 0
  | 0 => rfl
  | n + 1 => by
    show sm n (fun _ => 0) + 0 = 0
    rw [sm_zero n]; rfl
theorem sm_nonneg {n : Nat} {g : Nat → Int} (e : ∀ i, i < n → 0 ≤ g i) : 0 ≤ sm n g := by
  have := sm_le (g := fun _ => 0) e
  rw [sm_zero] at this
  exact this
theorem sm_add : ∀ (n : Nat) (g h : Nat → Int), sm n (fun i => g i + h i) = sm n g + sm n h
  | 0, _, _ => rfl
  | n + 1, g, h => by
    show sm n (fun i => g i + h i) + (g n + h n) = (sm n g + g n) + (sm n h + h n)
    rw [sm_add n g h]; omega
theorem sm_mul : ∀ (n : Nat) (g : Nat → Int) (c : Int), sm n (fun i => g i * c) = sm n g * c
  | 0, _, c => by show (0 : Int) = 0 * c; omega
  | n + 1, g, c => by
    show sm n (fun i => g i * c) + g n * c = (sm n g + g n) * c
    rw [sm_mul n g c, Int.add_mul]
theorem sm_ite (n : Nat) (p : Nat → Bool) (g : Nat → Int) : sm n g = sm n (fun i => if p i = true then 0 else g i) + sm n (fun i => if p i = true then g i else 0) := by
  rw [← sm_add]
  exact sm_congr fun i _ => by cases p i <;> simp
theorem sm_out : ∀ {n : Nat} {g : Nat → Int} {j : Nat} {d : Int}, ¬ j < n → sm n (fun i => if i = j then g i + d else g i) = sm n g
  | n, g, j, d, h => sm_congr fun i hi => if_neg (by omega)
/-- one place changed by d -/
theorem sm_upd : ∀ {n : Nat} {g : Nat → Int} {j : Nat} {d : Int}, j < n → sm n (fun i => if i = j then g i + d else g i) = sm n g + d
  | 0, _, _, _, h => by omega
  | n + 1, g, j, d, h => by
    show sm n (fun i => if i = j then g i + d else g i) + (if n = j then g n + d else g n) = sm n g + g n + d
    by_cases e : n = j
    · rw [if_pos e, sm_out (by omega)]; omega
    · rw [if_neg e, sm_upd (n := n) (by omega)]; omega
theorem sm_swap : ∀ (n m : Nat) (f : Nat → Nat → Int), sm n (fun x => sm m (f x)) = sm m (fun i => sm n (fun x => f x i))
  | 0, m, f => (sm_zero m).symm
  | n + 1, m, f => by
    show sm n (fun x => sm m (f x)) + sm m (f n) = sm m (fun i => sm n (fun x => f x i) + f n i)
    rw [sm_swap n m f, sm_add]
theorem sm_at : ∀ {n : Nat} {g : Nat → Int} {j : Nat}, (∀ i, i < n → 0 ≤ g i) → j < n → g j ≤ sm n g
  | 0, _, _, _, h => by omega
  | n + 1, g, j, e, h => by
    have a : 0 ≤ sm n g := sm_nonneg fun i hi => e i (by omega)
    have b := e n (by omega)
    show g j ≤ sm n g + g n
    by_cases q : j = n
    · subst q; omega
    · have := sm_at (n := n) (j := j) (fun i hi => e i (by omega)) (by omega)
      omega
theorem sm_null {n : Nat} {g : Nat → Int} (e : ∀ i, i < n → 0 ≤ g i) (h : sm n g = 0) : ∀ i, i < n → g i = 0 := fun i hi => by
  have a := sm_at e hi
  have b := e i hi
  omega
theorem sm_pos {n : Nat} {g : Nat → Int} {j : Nat} (e : ∀ i, i < n → 0 ≤ g i) (hj : j < n) (h : 0 < g j) : 0 < sm n g := by
  have := sm_at e hj
  omega

/-! a flow -/
structure FI (N M : Nat) (fits : Nat → Nat → Bool) (S R : Nat → Int) (f : Nat → Nat → Int) (sup room : Nat → Int) : Prop where
  f0 : ∀ x i, x < N → i < M → 0 ≤ f x i
  fit : ∀ x i, x < N → i < M → 0 < f x i → fits x i = true
  s0 : ∀ x, x < N → 0 ≤ sup x
  r0 : ∀ i, i < M → 0 ≤ room i
  row : ∀ x, x < N → sm M (f x) + sup x = S x
  col : ∀ i, i < M → sm N (fun x => f x i) + room i = R i
def bump (f : Nat → Nat → Int) (x i : Nat) (d : Int) : Nat → Nat → Int := fun y j => if y = x then (if j = i then f y j + d else f y j) else f y j
def up1 (g : Nat → Int) (x : Nat) (d : Int) : Nat → Int := fun y => if y = x then g y + d else g y
theorem bump_row {M : Nat} {f : Nat → Nat → Int} {x i : Nat} {d : Int} (hi : i < M) (y : Nat) : sm M (bump f x i d y) = sm M (f y) + (if y = x then d else 0) := by
  unfold bump
  by_cases e : y = x
  · simp only [if_pos e]
    exact sm_upd hi
  · simp only [if_neg e]
    show sm M (f y) = sm M (f y) + 0
    omega
theorem bump_col {N : Nat} {f : Nat → Nat → Int} {x i : Nat} {d : Int} (hx : x < N) (j : Nat) : sm N (fun y => bump f x i d y j) = sm N (fun y => f y j) + (if j = i then d else 0) := by
  unfold bump
  by_cases e : j = i
  · simp only [if_pos e]
    exact sm_upd (g := fun y => f y j) hx
  · simp only [if_neg e, ite_self]
    omega
/-- one pair of a way -/
def aug1 (re : Nat → Int) (m : Int) (f : Nat → Nat → Int) (p : Nat × Nat) : Nat → Nat → Int :=
  if 0 ≤ re p.1 then bump (bump f p.1 p.2 m) p.1 (re p.1).toNat (-m) else bump f p.1 p.2 m
def aug (re : Nat → Int) (m : Int) (w : List (Nat × Nat)) (f : Nat → Nat → Int) : Nat → Nat → Int := w.foldl (aug1 re m) f
inductive Way (fi : Nat → Nat) (re : Nat → Int) : Int → List (Nat × Nat) → Prop
  | nil {i : Int} (h : i < 0) : Way fi re i []
  | cons {i : Nat} {w : List (Nat × Nat)} (h : Way fi re (re (fi i)) w) : Way fi re (i : Int) ((fi i, i) :: w)
structure Tree (N M : Nat) (fits : Nat → Nat → Bool) (f : Nat → Nat → Int) (sup : Nat → Int) (fi : Nat → Nat) (re : Nat → Int) (inF inR : Nat → Prop) (rk : Nat → Nat) : Prop where
  filled : ∀ i, inF i → i < M ∧ inR (fi i) ∧ fits (fi i) i = true
  reached : ∀ x, inR x → x < N ∧ ((re x = -1 ∧ 0 < sup x) ∨ ∃ j : Nat, re x = (j : Int) ∧ inF j ∧ 0 < f x j ∧ rk (fi j) < rk x)
structure WF (N M : Nat) (fits : Nat → Nat → Bool) (f : Nat → Nat → Int) (sup : Nat → Int) (re : Nat → Int) (w : List (Nat × Nat)) : Prop where
  ne : w ≠ []
  all : ∀ p ∈ w, p.1 < N ∧ p.2 < M ∧ fits p.1 p.2 = true
  nd : (w.map (·.1)).Nodup
  last : ∃ z, w.getLast? = some z ∧ re z.1 = -1 ∧ 0 < sup z.1
  mid : ∀ p ∈ w.dropLast, ∃ j : Nat, re p.1 = (j : Int) ∧ j < M ∧ 0 < f p.1 j
section
variable {N M : Nat} {fits : Nat → Nat → Bool} {S R : Nat → Int} {f : Nat → Nat → Int} {sup room : Nat → Int} {fi : Nat → Nat} {re : Nat → Int} {inF inR : Nat → Prop} {rk : Nat → Nat} {m : Int}
theorem way_ne {i : Int} {w : List (Nat × Nat)} (h : Way fi re i w) (hi : 0 ≤ i) : w ≠ [] := by
  cases h with
  | nil h => omega
  | cons h => simp
theorem way_nil {i : Int} {w : List (Nat × Nat)} (h : Way fi re i w) (hi : i < 0) : w = [] := by
  cases h with
  | nil h => rfl
  | cons h => omega
theorem way_facts (T : Tree N M fits f sup fi re inF inR rk) : ∀ {i : Int} {w : List (Nat × Nat)}, Way fi re i w → ∀ n : Nat, i = (n : Int) → inF n → WF N M fits f sup re w ∧ ∀ p ∈ w, rk p.1 ≤ rk (fi n) := by
  intro i w h
  induction h with
  | nil h => intro n e; omega
  | @cons i w h ih =>
    intro n e hn
    have e' : i = n := by omega
    subst e'
    obtain ⟨f1, f2, f3⟩ := T.filled i hn
    obtain ⟨g1, g2⟩ := T.reached (fi i) f2
    rcases g2 with ⟨g2, g3⟩ | ⟨j, g2, g3, g4, g5⟩
    · rw [g2] at h
      cases h with
      | nil _ =>
        refine ⟨⟨by simp, ?_, by simp, ⟨(fi i, i), rfl, g2, g3⟩, ?_⟩, ?_⟩
        · intro p hp
          have hp := List.mem_singleton.mp hp
          subst hp
          exact ⟨g1, f1, f3⟩
        · intro p hp
          simp at hp
        · intro p hp
          have hp := List.mem_singleton.mp hp
          subst hp
          exact Nat.le_refl _
    · obtain ⟨W, hr⟩ := ih j g2 g3
      have tail : ∀ p ∈ w, rk p.1 < rk (fi i) := fun p hp => Nat.lt_of_le_of_lt (hr p hp) g5
      refine ⟨⟨by simp, ?_, ?_, ?_, ?_⟩, ?_⟩
      · intro p hp
        rcases List.mem_cons.mp hp with rfl | hp
        · exact ⟨g1, f1, f3⟩
        · exact W.all p hp
      · rw [List.map_cons, List.nodup_cons]
        refine ⟨fun hm => ?_, W.nd⟩
        obtain ⟨p, hp, e⟩ := List.mem_map.mp hm
        have := tail p hp
        rw [show p.1 = fi i from e] at this
        omega
      · obtain ⟨z, z1, z2⟩ := W.last
        refine ⟨z, ?_, z2⟩
        rw [List.getLast?_cons, z1]
        rfl
      · intro p hp
        rw [List.dropLast_cons_of_ne_nil W.ne] at hp
        rcases List.mem_cons.mp hp with rfl | hp
        · obtain ⟨j1, _, _⟩ := T.filled j g3
          exact ⟨j, g2, j1, g4⟩
        · exact W.mid p hp
      · intro p hp
        rcases List.mem_cons.mp hp with rfl | hp
        · exact Nat.le_refl _
        · exact Nat.le_of_lt (tail p hp)
theorem way_exists (T : Tree N M fits f sup fi re inF inR rk) : ∀ (k n : Nat), rk (fi n) < k → inF n → ∃ w, Way fi re (n : Int) w
  | 0, _, h, _ => by omega
  | k + 1, n, h, hn => by
    obtain ⟨f1, f2, f3⟩ := T.filled n hn
    obtain ⟨g1, g2⟩ := T.reached (fi n) f2
    rcases g2 with ⟨g2, g3⟩ | ⟨j, g2, g3, g4, g5⟩
    · exact ⟨_, .cons (by rw [g2]; exact .nil (by decide))⟩
    · obtain ⟨w, hw⟩ := way_exists T k j (by omega) g3
      exact ⟨_, .cons (by rw [g2]; exact hw)⟩
theorem way_row : ∀ {i : Int} {w : List (Nat × Nat)}, Way fi re i w → (∀ p ∈ w, p.2 < M) → (∀ p ∈ w, 0 ≤ re p.1 → (re p.1).toNat < M) → ∀ (f : Nat → Nat → Int) (x : Nat),
    sm M (aug re m w f x) = sm M (f x) + (if w.getLast?.map (·.1) = some x then m else 0) := by
  intro i w h
  induction h with
  | nil h => intro _ _ f x; simp [aug]
  | @cons i w h ih =>
    intro h1 h2 f x
    have hi : i < M := h1 (fi i, i) List.mem_cons_self
    have t1 : ∀ p ∈ w, p.2 < M := fun p hp => h1 p (List.mem_cons_of_mem _ hp)
    have t2 : ∀ p ∈ w, 0 ≤ re p.1 → (re p.1).toNat < M := fun p hp => h2 p (List.mem_cons_of_mem _ hp)
    show sm M (aug re m w (aug1 re m f (fi i, i)) x) = _
    rw [ih t1 t2]
    unfold aug1
    dsimp only
    by_cases hr : 0 ≤ re (fi i)
    · have hM := h2 (fi i, i) List.mem_cons_self hr
      rw [if_pos hr, bump_row hM, bump_row hi]
      have hw : w ≠ [] := way_ne h hr
      rw [List.getLast?_cons]
      obtain ⟨z, hz⟩ : ∃ z, w.getLast? = some z := by
        cases e : w.getLast? with
        | none => exact absurd (List.getLast?_eq_none_iff.mp e) hw
        | some z => exact ⟨z, rfl⟩
      rw [hz]
      simp only [Option.map_some, Option.getD_some]
      split <;> omega
    · rw [if_neg hr, bump_row hi]
      have hw : w = [] := way_nil h (by omega)
      subst hw
      simp only [List.getLast?_nil, Option.map_none, List.getLast?_singleton, Option.map_some, reduceCtorEq, if_false, Option.some.injEq]
      by_cases q : x = fi i
      · rw [if_pos q, if_pos q.symm]; omega
      · rw [if_neg q, if_neg (fun z => q z.symm)]; omega
theorem way_col : ∀ {i : Int} {w : List (Nat × Nat)}, Way fi re i w → (∀ p ∈ w, p.1 < N) → ∀ (f : Nat → Nat → Int) (j : Nat),
    sm N (fun x => aug re m w f x j) = sm N (fun x => f x j) + (if i = (j : Int) then m else 0) := by
  intro i w h
  induction h with
  | nil h =>
    intro _ f j
    rw [if_neg (by omega)]
    simp [aug]
  | @cons i w h ih =>
    intro h1 f j
    have hx : fi i < N := h1 (fi i, i) List.mem_cons_self
    have t1 : ∀ p ∈ w, p.1 < N := fun p hp => h1 p (List.mem_cons_of_mem _ hp)
    show sm N (fun x => aug re m w (aug1 re m f (fi i, i)) x j) = _
    rw [ih t1]
    unfold aug1
    dsimp only
    by_cases hr : 0 ≤ re (fi i)
    · simp only [if_pos hr]
      rw [bump_col hx, bump_col hx]
      by_cases q : j = (re (fi i)).toNat
      · rw [if_pos q, if_pos (show re (fi i) = (j : Int) by omega)]
        by_cases q2 : j = i
        · rw [if_pos q2, if_pos (by omega)]; omega
        · rw [if_neg q2, if_neg (by omega)]; omega
      · rw [if_neg q, if_neg (show ¬ re (fi i) = (j : Int) by omega)]
        by_cases q2 : j = i
        · rw [if_pos q2, if_pos (by omega)]; omega
        · rw [if_neg q2, if_neg (by omega)]; omega
    · simp only [if_neg hr]
      rw [bump_col hx, if_neg (show ¬ re (fi i) = (j : Int) by omega)]
      by_cases q2 : j = i
      · rw [if_pos q2, if_pos (by omega)]; omega
      · rw [if_neg q2, if_neg (by omega)]; omega
theorem aug_good : ∀ (w : List (Nat × Nat)) (f : Nat → Nat → Int), 0 ≤ m → (∀ p ∈ w, fits p.1 p.2 = true) → (w.map (·.1)).Nodup → (∀ p ∈ w, 0 ≤ re p.1 → m ≤ f p.1 (re p.1).toNat) →
    (∀ x i, x < N → i < M → 0 ≤ f x i ∧ (0 < f x i → fits x i = true)) → ∀ x i, x < N → i < M → 0 ≤ aug re m w f x i ∧ (0 < aug re m w f x i → fits x i = true)
  | [], f, _, _, _, _, h => h
  | p :: w, f, hm, h1, h2, h3, h => by
    rw [List.map_cons, List.nodup_cons] at h2
    refine aug_good w (aug1 re m f p) hm (fun q hq => h1 q (List.mem_cons_of_mem _ hq)) h2.2 (fun q hq hr => ?_) (fun x i hx hi => ?_)
    · have ne : q.1 ≠ p.1 := fun e => h2.1 (by rw [← e]; exact List.mem_map_of_mem hq)
      have q3 := h3 q (List.mem_cons_of_mem _ hq) hr
      unfold aug1 bump
      split <;> simp only [if_neg ne] <;> exact q3
    · obtain ⟨a, b⟩ := h x i hx hi
      have fp := h1 p List.mem_cons_self
      have fp3 := h3 p List.mem_cons_self
      unfold aug1 bump
      by_cases e : x = p.1
      · subst e
        by_cases e2 : i = p.2
        · subst e2
          refine ⟨?_, fun _ => fp⟩
          by_cases hr : 0 ≤ re p.1
          · have := fp3 hr
            simp only [if_pos hr, if_true]
            split
            · omega
            · omega
          · simp only [if_neg hr, if_true]
            omega
        · by_cases hr : 0 ≤ re p.1
          · have := fp3 hr
            simp only [if_pos hr, if_true, if_neg e2]
            split
            · rename_i e3
              subst e3
              exact ⟨by omega, fun z => b (by omega)⟩
            · exact ⟨a, b⟩
          · simp only [if_neg hr, if_true, if_neg e2]
            exact ⟨a, b⟩
      · split <;> simp only [if_neg e] <;> exact ⟨a, b⟩
/-- a round of fill -/
theorem aug_ok (F : FI N M fits S R f sup room) {p : Nat} {w : List (Nat × Nat)} {z : Nat × Nat} (hw : Way fi re (p : Int) w) (W : WF N M fits f sup re w) (hp : p < M) (hz : w.getLast? = some z)
    (m0 : 0 ≤ m) (m1 : m ≤ room p) (m2 : m ≤ sup z.1) (m3 : ∀ q ∈ w.dropLast, m ≤ f q.1 (re q.1).toNat) :
    FI N M fits S R (aug re m w f) (up1 sup z.1 (-m)) (up1 room p (-m)) := by
  obtain ⟨z', hz', hz1, hz2⟩ := W.last
  rw [hz] at hz'
  cases hz'
  have hsplit : ∀ q ∈ w, q ∈ w.dropLast ∨ q = z := fun q hq => by
    have e : w = w.dropLast ++ [z] := by
      obtain ⟨l, hl⟩ := List.getLast?_eq_some_iff.mp hz
      rw [hl]; simp
    rw [e] at hq
    rcases List.mem_append.mp hq with h | h
    · exact .inl h
    · exact .inr (List.mem_singleton.mp h)
  have reM : ∀ q ∈ w, 0 ≤ re q.1 → (re q.1).toNat < M := fun q hq hr => by
    rcases hsplit q hq with h | h
    · obtain ⟨j, e, hj, _⟩ := W.mid q h
      omega
    · rw [h] at hr; omega
  have hm3 : ∀ q ∈ w, 0 ≤ re q.1 → m ≤ f q.1 (re q.1).toNat := fun q hq hr => by
    rcases hsplit q hq with h | h
    · exact m3 q h
    · rw [h] at hr; omega
  have good := aug_good (N := N) (M := M) w f m0 (fun q hq => (W.all q hq).2.2) W.nd hm3 fun x i hx hi => ⟨F.f0 x i hx hi, F.fit x i hx hi⟩
  refine ⟨fun x i hx hi => (good x i hx hi).1, fun x i hx hi => (good x i hx hi).2, fun x hx => ?_, fun i hi => ?_, fun x hx => ?_, fun i hi => ?_⟩
  · have := F.s0 x hx
    unfold up1
    split
    · rename_i e; subst e; omega
    · exact this
  · have := F.r0 i hi
    unfold up1
    split
    · rename_i e; subst e; omega
    · exact this
  · rw [way_row hw (fun q hq => (W.all q hq).2.1) reM, hz]
    have := F.row x hx
    unfold up1
    simp only [Option.map_some, Option.some.injEq]
    by_cases e : x = z.1
    · rw [if_pos e, if_pos e.symm]; omega
    · rw [if_neg e, if_neg (fun q => e q.symm)]; omega
  · rw [way_col hw fun q hq => (W.all q hq).1]
    have := F.col i hi
    unfold up1
    by_cases e : i = p
    · rw [if_pos e, if_pos (by omega)]; omega
    · rw [if_neg e, if_neg (by omega)]; omega
theorem up1_sum {n x : Nat} {g : Nat → Int} {d : Int} (h : x < n) : sm n (up1 g x d) = sm n g + d := sm_upd h

/-! cuts -/
def nb (N : Nat) (fits : Nat → Nat → Bool) (lb : Nat → Bool) (i : Nat) : Bool := (List.range N).any fun x => lb x && fits x i
theorem nb_true {lb : Nat → Bool} {i : Nat} : nb N fits lb i = true ↔ ∃ x, x < N ∧ lb x = true ∧ fits x i = true := by
  unfold nb
  rw [List.any_eq_true]
  constructor
  · rintro ⟨x, hx, h⟩
    rw [Bool.and_eq_true] at h
    exact ⟨x, List.mem_range.mp hx, h⟩
  · rintro ⟨x, hx, h⟩
    exact ⟨x, List.mem_range.mpr hx, by rw [Bool.and_eq_true]; exact h⟩
def cut (N M : Nat) (fits : Nat → Nat → Bool) (S R : Nat → Int) (lb : Nat → Bool) : Int :=
  sm N (fun x => if lb x = true then 0 else S x) + sm M (fun i => if nb N fits lb i = true then R i else 0)
theorem total_split (f : Nat → Nat → Int) (lb : Nat → Bool) : sm N (fun x => sm M (f x)) = sm N (fun x => if lb x = true then 0 else sm M (f x)) + sm M (fun i => sm N (fun x => if lb x = true then f x i else 0)) := by
  rw [sm_ite N lb (fun x => sm M (f x))]
  congr 1
  rw [← sm_swap N M (fun x i => if lb x = true then f x i else 0)]
  refine sm_congr fun x _ => ?_
  cases lb x
  · simp [sm_zero]
  · simp
/-- no flow is above a cut -/
theorem cut_le (F : FI N M fits S R f sup room) (lb : Nat → Bool) : sm N (fun x => sm M (f x)) ≤ cut N M fits S R lb := by
  rw [total_split f lb]
  unfold cut
  refine Int.add_le_add (sm_le fun x hx => ?_) (sm_le fun i hi => ?_)
  · have := F.row x hx
    have := F.s0 x hx
    split <;> omega
  · have hc := F.col i hi
    have hr := F.r0 i hi
    split
    · refine Int.le_trans (sm_le (h := fun x => f x i) fun x hx => ?_) (by omega)
      have := F.f0 x i hx hi
      split <;> omega
    · rename_i hn
      refine Int.le_of_eq ((sm_congr fun x hx => ?_).trans (sm_zero N))
      split
      · rename_i hb
        have h0 := F.f0 x i hx hi
        by_cases hpos : 0 < f x i
        · exact absurd (nb_true.mpr ⟨x, hx, hb, F.fit x i hx hi hpos⟩) hn
        · omega
      · rfl
/-- the texts reached where nothing more is found -/
structure Closed (N M : Nat) (fits : Nat → Nat → Bool) (f : Nat → Nat → Int) (sup room : Nat → Int) (lb : Nat → Bool) : Prop where
  src : ∀ x, x < N → 0 < sup x → lb x = true
  full : ∀ x i, x < N → i < M → lb x = true → fits x i = true → room i ≤ 0
  back : ∀ x i y, x < N → i < M → y < N → lb x = true → fits x i = true → 0 < f y i → lb y = true
theorem cut_eq (F : FI N M fits S R f sup room) {lb : Nat → Bool} (C : Closed N M fits f sup room lb) : sm N (fun x => sm M (f x)) = cut N M fits S R lb := by
  rw [total_split f lb]
  unfold cut
  congr 1
  · refine sm_congr fun x hx => ?_
    cases hb : lb x with
    | true => simp
    | false =>
      have := F.row x hx
      have h0 := F.s0 x hx
      have : ¬ 0 < sup x := fun z => by
        rw [C.src x hx z] at hb
        cases hb
      simp only [Bool.false_eq_true, if_false]
      omega
  · refine sm_congr fun i hi => ?_
    have hc := F.col i hi
    have hr := F.r0 i hi
    split
    · rename_i hn
      obtain ⟨x0, h1, h2, h3⟩ := nb_true.mp hn
      have hz := C.full x0 i h1 hi h2 h3
      have e : sm N (fun x => if lb x = true then f x i else 0) = sm N (fun x => f x i) := sm_congr fun x hx => by
        have h0 := F.f0 x i hx hi
        by_cases hpos : 0 < f x i
        · rw [if_pos (C.back x0 i x h1 hi hx h2 h3 hpos)]
        · split <;> omega
      rw [e]
      omega
    · rename_i hn
      refine (sm_congr fun x hx => ?_).trans (sm_zero N)
      split
      · rename_i hb
        have h0 := F.f0 x i hx hi
        by_cases hpos : 0 < f x i
        · exact absurd (nb_true.mpr ⟨x, hx, hb, F.fit x i hx hi hpos⟩) hn
        · omega
      · rfl

/-! pour: x and i below (x0, i0) are through -/
structure PI (N M : Nat) (fits : Nat → Nat → Bool) (S R : Nat → Int) (f : Nat → Nat → Int) (sup room : Nat → Int) (x0 i0 : Nat) (g : Nat → Nat → Int) (s r : Nat → Int) : Prop where
  g0 : ∀ x i, x < N → i < M → 0 ≤ g x i
  s0 : ∀ x, x < N → 0 ≤ s x
  r0 : ∀ i, i < M → 0 ≤ r i
  sl : ∀ x, x < N → s x ≤ sup x
  rl : ∀ i, i < M → r i ≤ room i
  row : ∀ x, x < N → sm M (g x) + s x = S x
  col : ∀ i, i < M → sm N (fun x => g x i) + r i = R i
  same : ∀ x i, x < N → i < M → fits x i = true → g x i = f x i
  done : ∀ x i, x < N → i < M → (x < x0 ∨ (x = x0 ∧ i < i0)) → s x = 0 ∨ r i = 0
theorem pour_start (F : FI N M fits S R f sup room) : PI N M fits S R f sup room 0 0 f sup room :=
  ⟨F.f0, F.s0, F.r0, fun _ _ => Int.le_refl _, fun _ _ => Int.le_refl _, F.row, F.col, fun _ _ _ _ _ => rfl, fun x i _ _ h => by omega⟩
theorem pour_next {g : Nat → Nat → Int} {s r : Nat → Int} {x0 : Nat} (P : PI N M fits S R f sup room x0 M g s r) : PI N M fits S R f sup room (x0 + 1) 0 g s r :=
  ⟨P.g0, P.s0, P.r0, P.sl, P.rl, P.row, P.col, P.same, fun x i hx hi h => P.done x i hx hi (by omega)⟩
theorem pour_step {g : Nat → Nat → Int} {s r : Nat → Int} {x0 i0 : Nat} {lb : Nat → Bool} (C : Closed N M fits f sup room lb) (P : PI N M fits S R f sup room x0 i0 g s r) (hx : x0 < N) (hi : i0 < M) {m : Int}
    (hm : m = s x0 ∧ s x0 ≤ r i0 ∨ m = r i0 ∧ r i0 ≤ s x0) : PI N M fits S R f sup room x0 (i0 + 1) (bump g x0 i0 m) (up1 s x0 (-m)) (up1 r i0 (-m)) := by
  have hs := P.s0 x0 hx
  have hr := P.r0 i0 hi
  have m0 : 0 ≤ m := by omega
  refine ⟨fun x i h1 h2 => ?_, fun x h1 => ?_, fun i h2 => ?_, fun x h1 => ?_, fun i h2 => ?_, fun x h1 => ?_, fun i h2 => ?_, fun x i h1 h2 h3 => ?_, fun x i h1 h2 h3 => ?_⟩
  · have := P.g0 x i h1 h2
    unfold bump
    split
    · split <;> omega
    · exact this
  · have := P.s0 x h1
    unfold up1
    split
    · rename_i e; subst e; omega
    · exact this
  · have := P.r0 i h2
    unfold up1
    split
    · rename_i e; subst e; omega
    · exact this
  · have := P.sl x h1
    unfold up1
    split <;> omega
  · have := P.rl i h2
    unfold up1
    split <;> omega
  · have := P.row x h1
    rw [bump_row hi]
    unfold up1
    split <;> omega
  · have := P.col i h2
    rw [bump_col hx]
    unfold up1
    split <;> omega
  · have q := P.same x i h1 h2 h3
    unfold bump
    by_cases e : x = x0
    · by_cases e2 : i = i0
      · subst e; subst e2
        rw [if_pos rfl, if_pos rfl]
        have : m = 0 := by
          by_cases hp : 0 < s x
          · have a := P.sl x h1
            have b := C.full x i h1 h2 (C.src x h1 (by omega)) h3
            have c := P.rl i h2
            omega
          · omega
        omega
      · rw [if_pos e, if_neg e2]; exact q
    · rw [if_neg e]; exact q
  · by_cases e : x = x0 ∧ i = i0
    · obtain ⟨rfl, rfl⟩ := e
      unfold up1
      rw [if_pos rfl, if_pos rfl]
      omega
    · have q := P.done x i h1 h2 (by omega)
      have a := P.s0 x h1
      have b := P.r0 i h2
      have key1 : s x = 0 → up1 s x0 (-m) x = 0 := fun z => by
        unfold up1
        split
        · rename_i e; subst e; omega
        · exact z
      have key2 : r i = 0 → up1 r i0 (-m) i = 0 := fun z => by
        unfold up1
        split
        · rename_i e; subst e; omega
        · exact z
      exact q.imp key1 key2
/-- what is written in the end -/
structure Fin (N M : Nat) (fits : Nat → Nat → Bool) (S R : Nat → Int) (g : Nat → Nat → Int) (lb : Nat → Bool) : Prop where
  g0 : ∀ x i, x < N → i < M → 0 ≤ g x i
  row : ∀ x, x < N → sm M (g x) = S x
  col : ∀ i, i < M → sm N (fun x => g x i) = R i
  found : sm N (fun x => sm M (fun i => if fits x i = true then g x i else 0)) = cut N M fits S R lb
  least : ∀ lb' : Nat → Bool, cut N M fits S R lb ≤ cut N M fits S R lb'
theorem pour_end {g : Nat → Nat → Int} {s r : Nat → Int} {lb : Nat → Bool} (F : FI N M fits S R f sup room) (C : Closed N M fits f sup room lb) (P : PI N M fits S R f sup room N 0 g s r) (hSR : sm N S = sm M R) : Fin N M fits S R g lb := by
  have tot : sm N s = sm M r := by
    have a : sm N (fun x => sm M (g x) + s x) = sm N S := sm_congr P.row
    have b : sm M (fun i => sm N (fun x => g x i) + r i) = sm M R := sm_congr P.col
    rw [sm_add] at a b
    rw [sm_swap] at a
    omega
  have hs : sm N s = 0 := by
    by_cases h : 0 < sm N s
    · exfalso
      have : ¬ ∀ x, x < N → s x ≤ 0 := fun z => by
        have := sm_le (n := N) (h := fun _ => 0) z
        rw [sm_zero] at this
        omega
      have ⟨x, hx⟩ := Classical.not_forall.mp this
      have ⟨h1, h2⟩ := Classical.not_imp.mp hx
      have : sm M r = sm M (fun _ => 0) := sm_congr fun i hi => by
        rcases P.done x i h1 hi (.inl h1) with z | z
        · omega
        · exact z
      rw [sm_zero] at this
      omega
    · have := sm_nonneg P.s0
      omega
  have s0 := sm_null P.s0 hs
  have r0 := sm_null P.r0 (tot ▸ hs)
  have fF : sm N (fun x => sm M (fun i => if fits x i = true then g x i else 0)) = sm N (fun x => sm M (f x)) := sm_congr fun x hx => sm_congr fun i hi => by
    by_cases h : fits x i = true
    · rw [if_pos h, P.same x i hx hi h]
    · rw [if_neg h]
      have a := F.f0 x i hx hi
      by_cases hp : 0 < f x i
      · exact absurd (F.fit x i hx hi hp) h
      · omega
  refine ⟨P.g0, fun x hx => ?_, fun i hi => ?_, ?_, fun lb' => ?_⟩
  · have := P.row x hx
    have := s0 x hx
    omega
  · have := P.col i hi
    have := r0 i hi
    omega
  · rw [fF, cut_eq F C]
  · rw [← cut_eq F C]
    exact cut_le F lb'
end
end Mt
end

section
set_option Elab.async false
set_option linter.all false
set_option maxRecDepth 100000
/-! The text by places (printed by gen_hd.py). -/
namespace Km
open PySem L2
def top (i : Nat) : Stmt := PySem.Challenge.pw_marktruly_k52_whole_best_writer.main.body.getD i (.Pass ⟨0, 0, 0, 0⟩)
abbrev s_UnknownText_init : Stmt := inClass (top 6) 0
abbrev s_Changes_init : Stmt := inClass (top 9) 0
abbrev s_Changes_texts : Stmt := inClass (top 9) 2
abbrev s_Changes_of : Stmt := inClass (top 9) 3
abbrev s_known : Stmt := top 10
abbrev s_greatest_divisor : Stmt := top 12
abbrev s_least_multiple : Stmt := top 13
abbrev s_power : Stmt := top 14
abbrev s_Share_init : Stmt := inClass (top 16) 0
abbrev s_Share_add : Stmt := inClass (top 16) 1
abbrev s_is_integer : Stmt := top 18
abbrev s_Table_init : Stmt := inClass (top 19) 0
abbrev s_Table_texts : Stmt := inClass (top 19) 1
abbrev s_Table_weight_of : Stmt := inClass (top 19) 2
abbrev s_Machine_init : Stmt := inClass (top 20) 0
abbrev s_Machine_all_weights : Stmt := inClass (top 20) 1
abbrev s_Machine_texts : Stmt := inClass (top 20) 2
abbrev s_Machine_weight_of : Stmt := inClass (top 20) 3
abbrev s_Marking_init : Stmt := inClass (top 23) 0
abbrev s_Marking_texts : Stmt := inClass (top 23) 5
abbrev s_accused_by : Stmt := top 24
abbrev s_Flow_init : Stmt := inClass (top 26) 0
abbrev s_Flow_search : Stmt := inClass (top 26) 1
abbrev s_Flow_way_to : Stmt := inClass (top 26) 2
abbrev s_Flow_fill : Stmt := inClass (top 26) 3
abbrev s_Flow_pour : Stmt := inClass (top 26) 4
abbrev s_best_writer : Stmt := top 27
abbrev s_lot_bound : Stmt := top 28
abbrev s_check_written : Stmt := top 30
abbrev s_found_share : Stmt := top 31
abbrev s_law_stream : Stmt := top 33
abbrev s_law_draw : Stmt := top 34
abbrev s_law_large : Stmt := top 35
abbrev s_law_lowest : Stmt := top 36
abbrev s_law_is_whole : Stmt := top 37
abbrev s_law_is_share : Stmt := top 38
abbrev s_law_text : Stmt := top 39
abbrev s_law_pool : Stmt := top 40
abbrev s_law_part : Stmt := top 41
abbrev s_law_top : Stmt := top 42
abbrev s_law_source : Stmt := top 43
abbrev s_law_readable : Stmt := top 44
abbrev s_law_finder : Stmt := top 45
abbrev s_law_copy : Stmt := top 46
abbrev s_law_reaches : Stmt := top 47
abbrev s_law_bound : Stmt := top 48
abbrev s_law_entries : Stmt := top 49
abbrev s_law_places_fit : Stmt := top 50
abbrev s_law_unseen : Stmt := top 51
abbrev s_law_lot_fits : Stmt := top 52
abbrev s_law_refused : Stmt := top 53
abbrev s_law_refusals_fit : Stmt := top 54
abbrev s_law_lots_fit : Stmt := top 55
abbrev s_law_whole : Stmt := top 56
abbrev s_law : Stmt := top 57
end Km
end

section
set_option Elab.async false
set_option linter.all false
set_option maxRecDepth 100000
set_option maxHeartbeats 4000000
/-! Rules of our own: set(a list of texts), sorted(a set of texts). -/
namespace Km
open PySem PySem.Spec PyProof.Rows L2
/-- the text of an entry -/
def txtE (e : Int × Value) : Str := match e.2 with | .str k _ => k | _ => Str.empty
def TxtE (P : Program) (w : World) (e : Int × Value) : Prop := ∃ k tk, e.2 = Value.str k tk ∧ e.1 = (strKind P w).hash k
/-- the set of texts at a: S its members, n their number; its table rises and can be walked -/
def SetS (P : Program) (w : World) (h : Heap) (a : Addr) (S : Str → Bool) (n : Nat) : Prop :=
  ∃ o es ep t, h.get? a = some o ∧ o.ExactSet ∧ o.data = .set es ep t ∧ (∀ e ∈ es.toList, TxtE P w e) ∧ (es.toList.map txtE).Nodup ∧ (∀ k, S k = true ↔ k ∈ es.toList.map txtE) ∧
    es.size < scanBound ∧ t.fits es.size = true ∧ es.size = n ∧ Ris t.place.toList ∧ (w.params.followText "set-order" = true ∨ t.led = true)
section
variable {P : Program} {w : World} {h h' : Heap} {a : Addr} {S : Str → Bool} {n : Nat}
theorem SetS.stay (R : SetS P w h a S n) (k : ∀ o, h.get? a = some o → h'.get? a = some o) : SetS P w h' a S n := by
  obtain ⟨o, es, ep, t, ho, r⟩ := R
  exact ⟨o, es, ep, t, k o ho, r⟩
theorem txt_elems {l : List (Int × Value)} (g : ∀ e ∈ l, TxtE P w e) : ElemsOf (strKind P w) l := fun e he => by
  obtain ⟨k, tk, h1, h2⟩ := g e he
  exact ⟨⟨k, by rw [h1]; exact strKind_is P w k tk, h2⟩, by rw [h1] <;> rfl⟩
theorem txt_is {e : Int × Value} (g : TxtE P w e) (k : Str) : (strKind P w).is k e.2 = true ↔ txtE e = k := by
  obtain ⟨k0, tk, h1, _⟩ := g
  unfold txtE
  rw [h1]
  constructor
  · intro z
    exact (strKind P w).inj (.str k0 tk) k0 k (strKind_is P w k0 tk) z
  · rintro rfl
    exact strKind_is P w _ tk
theorem txt_mem {l : List (Int × Value)} (g : ∀ e ∈ l, TxtE P w e) (k : Str) : k ∈ l.map txtE ↔ ∃ e ∈ l, (strKind P w).is k e.2 = true := by
  rw [List.mem_map]
  exact ⟨fun ⟨e, he, q⟩ => ⟨e, he, (txt_is (g e he) k).2 q⟩, fun ⟨e, he, q⟩ => ⟨e, he, (txt_is (g e he) k).1 q⟩⟩
end
section
variable {P : Program} {w : World} {A : Around} {E : Value → Shared → Prop} {s : Shared} {a : Addr} {S : Str → Bool} {n : Nat}
theorem setS_tail {g : Bool → Sem Unit} (hg : ∀ (b : Bool) (s₁ : Shared) (Q' : Unit → Shared → Prop), Q' () s₁ → wpAny (model P w) A (g b) Q' E s₁)
    {o : Obj} {es : Array (Int × Value)} {ep : Nat} {t : SetTable} (ho : s.heap.get? a = some o) (hex : o.ExactSet) (hd : o.data = .set es ep t)
    {es1 : Array (Int × Value)} {t2 : SetTable} {S1 : Str → Bool} (g1 : ∀ e ∈ es1.toList, TxtE P w e) (nd1 : (es1.toList.map txtE).Nodup) (m1 : ∀ k, S1 k = true ↔ k ∈ es1.toList.map txtE)
    (hb1 : es1.size < scanBound) (hf2 : t2.fits es1.size = true) (hr : Ris t2.place.toList) (hl : w.params.followText "set-order" = true ∨ t2.led = true) {wd : Bool} {R : Option Bool → Shared → Prop}
    (hR : ∀ h', Heap.SameBut a s.heap h' → SetS P w h' a S1 es1.size → R (some true) { s with heap := h' }) :
    wpAny (model P w) A (do
        storeSet a es1 t2
        if (!wd && t2.tooFull) = true then do
            g (relayAll t2 es1 (SetTable.grown es1.size)).2.2
            storeSet a (relayAll t2 es1 (SetTable.grown es1.size)).1 (relayAll t2 es1 (SetTable.grown es1.size)).2.1
            pure (some true)
          else pure (some true)) R E s := by
  refine wpAny_bind (wpAny_storeSet_of ho hd ?_ (fits_of_scanBound hb1))
  have at1 := L2.store_at (es' := es1) (t' := t2) ho hd
  have but1 := Heap.SameBut.update s.heap a (Obj.putSet es1 t2)
  split
  · have pm := relayAll_perm t2 es1 (SetTable.grown es1.size)
    have hf3 := relayAll_fits t2 es1 (SetTable.grown es1.size)
    have hr3 := relayAll_ris t2 es1 (SetTable.grown es1.size)
    have hl3 := relayAll_led t2 es1 (SetTable.grown es1.size)
    generalize relayAll t2 es1 (SetTable.grown es1.size) = Z at pm hf3 hr3 hl3 ⊢
    obtain ⟨es2, t3, gave⟩ := Z
    dsimp only at pm hf3 hr3 hl3 ⊢
    have sz : es2.size = es1.size := by rw [← Array.length_toList, pm.length_eq, Array.length_toList]
    have hb2 : es2.size < scanBound := by rw [sz]; exact hb1
    refine wpAny_bind (hg _ _ _ (wpAny_bind (wpAny_storeSet_of at1 rfl ?_ (fits_of_scanBound hb2))))
    have at2 := L2.store_at (es' := es2) (t' := t3) at1 rfl
    refine wpAny_pure (hR _ (but1.trans (Heap.SameBut.update _ a _)) ⟨_, es2, _, t3, at2, hex, rfl, fun e he => g1 e (pm.mem_iff.mp he), (pm.map txtE).nodup_iff.mpr nd1, fun k => (m1 k).trans (pm.map txtE).mem_iff.symm, hb2, hf3, sz, hr3, ?_⟩)
    rw [hl3]
    exact hl
  · exact wpAny_pure (hR _ but1 ⟨_, es1, _, t2, at1, hex, rfl, g1, nd1, m1, hb1, hf2, rfl, hr, hl⟩)
theorem setS_add {k : Str} {tk : Tok} {Q : Bool → Shared → Prop} (R : SetS P w s.heap a S n) (room : n + 1 < scanBound)
    (hQ : ∀ h' b, Heap.SameBut a s.heap h' → SetS P w h' a (fun j => S j || decide (j = k)) (if S k = true then n else n + 1) → Q b { s with heap := h' }) :
    wpAny (model P w) A (setAddHashed a (.str k tk) ((strKind P w).hash k)) Q E s := by
  obtain ⟨o, es, ep, t, ho, hex, hd, g, nd, hm, hb, hf, hn, hr, hl⟩ := R
  have hkey : (strKind P w).is k (.str k tk) = true := strKind_is P w k tk
  have hsc : (Value.str k tk).scannable = true := rfl
  have hel : ElemsOf (strKind P w) es.toList := txt_elems g
  unfold setAddHashed setAddHashedIn
  refine wpAny_holding (wpAny_bind (wpAny_setState_of ho hd hf ?_))
  dsimp only
  rw [byScan_of hsc hb hel]
  simp only [↓reduceIte]
  unfold setAddByScan
  refine wpAny_bind (wpAny_bind (wpAny_rule (wpAny_bind (wpAny_setScan_of hkey ho hd hf hel ?_))))
  cases hfi : List.findIdx? (fun e => (strKind P w).is k e.2) es.toList with
  | some j =>
    dsimp only
    obtain ⟨hj, pj, _⟩ := List.findIdx?_eq_some_iff_getElem.mp hfi
    have hSk : S k = true := (hm k).2 ((txt_mem (P := P) (w := w) g k).2 ⟨es.toList[j], List.getElem_mem hj, pj⟩)
    refine wpAny_pure (wpAny_pure (hQ s.heap _ (Heap.SameBut.refl a s.heap) ⟨o, es, ep, t, ho, hex, hd, g, nd, fun i => ?_, hb, hf, by rw [if_pos hSk]; exact hn, hr, hl⟩))
    rw [Bool.or_eq_true, decide_eq_true_eq, ← hm i]
    exact ⟨fun z => z.elim id (fun e => e ▸ hSk), .inl⟩
  | none =>
    dsimp only
    have hnk : k ∉ es.toList.map txtE := fun z => by
      obtain ⟨e, he, q⟩ := (txt_mem (P := P) (w := w) g k).1 z
      have c := List.findIdx?_eq_none_iff.mp hfi e he
      rw [q] at c
      cases c
    have hSk : ¬ S k = true := fun q => hnk ((hm k).1 q)
    have hgw : ∀ (b : Bool) {s₁ : Shared} {Q' : Unit → Shared → Prop}, Q' () s₁ → wpAny (model P w) A (match b with | true => rule "set.scan.the-table-gave-way" | false => pure ()) Q' E s₁ :=
      fun b s₁ Q' q => by cases b <;> first | exact wpAny_pure q | exact wpAny_rule q
    have pm := layNew_perm t es ((strKind P w).hash k) (.str k tk)
    have hf1 := layNew_fits t es ((strKind P w).hash k) (.str k tk)
    have hr1 := layNew_ris t es ((strKind P w).hash k) (.str k tk) hr
    have hl1 := layNew_led t es ((strKind P w).hash k) (.str k tk)
    generalize layNew t es ((strKind P w).hash k) (.str k tk) = Z at pm hf1 hr1 hl1 ⊢
    obtain ⟨es1, t1, wd, gave⟩ := Z
    dsimp only at pm hf1 hr1 hl1 ⊢
    rw [Array.toList_push] at pm
    have pc : es1.toList.Perm (((strKind P w).hash k, Value.str k tk) :: es.toList) := pm.trans (List.perm_append_singleton _ _)
    have pk : (es1.toList.map txtE).Perm (k :: es.toList.map txtE) := pc.map txtE
    have g1 : ∀ e ∈ es1.toList, TxtE P w e := fun e he => by
      rcases List.mem_cons.mp (pc.mem_iff.mp he) with z | z
      · rw [z]; exact ⟨k, tk, rfl, rfl⟩
      · exact g e z
    have nd1 : (es1.toList.map txtE).Nodup := pk.nodup_iff.mpr (List.nodup_cons.mpr ⟨hnk, nd⟩)
    have m1 : ∀ i, (S i || decide (i = k)) = true ↔ i ∈ es1.toList.map txtE := fun i => by
      rw [Bool.or_eq_true, decide_eq_true_eq, hm i, pk.mem_iff, List.mem_cons]
      exact Or.comm
    have sz : es1.size = n + 1 := by rw [← Array.length_toList, pc.length_eq, List.length_cons, Array.length_toList, hn]
    have hb1 : es1.size < scanBound := by rw [sz]; exact room
    have hled : w.params.followText "set-order" = true ∨ t1.led = true := by rw [hl1]; exact hl
    have fin : ∀ h', Heap.SameBut a s.heap h' → SetS P w h' a (fun j => S j || decide (j = k)) es1.size → Q true { s with heap := h' } := fun h' sb r => by
      refine hQ h' true sb ?_
      rw [if_neg hSk, ← sz]
      exact r
    refine wpAny_bind (hgw _ ?_)
    split
    · refine wpAny_bind ?_
      rw [hashByValue_scannable 8 hsc]
      refine wpAny_pure (setS_tail ?_ ho hex hd g1 nd1 m1 hb1 ?_ ?_ ?_ ?_)
      · intro b s₁ Q' q; cases b <;> first | exact wpAny_pure q | exact wpAny_rule q
      · first | (split <;> first | exact hf1 | exact SetTable.fits_plain_off hf1) | exact hf1
      · first | (split <;> exact hr1) | exact hr1
      · first | (split <;> exact hled) | exact hled
      · intro h' sb r; dsimp only; exact wpAny_pure (fin h' sb r)
    · refine wpAny_bind (wpAny_pure ?_)
      simp only [↓reduceIte]
      refine setS_tail ?_ ho hex hd g1 nd1 m1 hb1 hf1 hr1 hled ?_
      · intro b s₁ Q' q; cases b <;> first | exact wpAny_pure q | exact wpAny_rule q
      · intro h' sb r; dsimp only; exact wpAny_pure (fin h' sb r)
theorem setS_fresh {h : Heap} {a : Addr} (ho : h.get? a = some { cls := .type "set", dict := none, data := .set #[] 0 (.fresh 0 0 (!w.params.followText "set-order")) }) : SetS P w h a (fun _ => false) 0 :=
  ⟨_, #[], 0, _, ho, ⟨rfl, rfl, rfl⟩, rfl, (fun e he => by simp at he), (by simp), (fun k => by simp), (by decide), (by rfl), rfl, List.Pairwise.nil, by
    show _ ∨ (!w.params.followText "set-order") = true
    cases w.params.followText "set-order"
    · exact .inr rfl
    · exact .inl rfl⟩
end
/-- the members that a list has given -/
def inL (xs : List Str) : Str → Bool := fun x => decide (x ∈ xs)
section
variable {P : Program} {w : World} {A : Around} {R : Result → Shared → Prop} {I : Addr} {fp wr : List Addr} {G : Array GenState → Array GenState → Prop} {n : Nat} {Pv : Nat → Value → Prop} {St : Nat → Shared → Prop}
/-- the loop of set.update over texts -/
theorem setS_loop (W : WalksS P w A.in1 I fp wr G n Pv St) (T : Addr) (hT : T ∉ fp) (xs : List Str) (hsz : xs.length = n) (hn : n < 4000) (hval : ∀ i v, Pv i v → ∃ t, v = .str (xs.getD i Str.empty) t) :
    ∀ (k i : Nat) (s : Shared), n - i = k → i ≤ n → St i s → (∃ m, m ≤ i ∧ SetS P w s.heap T (inL (xs.take i)) m) →
      (∀ s' m, m ≤ n → Moved (T :: wr) G s s' → SetS P w s'.heap T (inL xs) m → R (.ok (.ret .none)) s') →
      codeAny (model P w) A (.builtin "set.update.loop" ⟨[.ref T, .ref I], []⟩) R s := by
  have hTw : T ∉ wr := fun h => hT (W.sub _ h)
  have hsub : ∀ b ∈ wr, b ∈ T :: wr := fun b hb => List.mem_cons_of_mem _ hb
  intro k
  induction k with
  | zero =>
    intro i s hk hi hst ⟨m, hm, hS⟩ hR
    have hin : i = n := by omega
    subst hin
    refine codeAny_builtin F.entry_set_update_loop ?_
    rw [Around.under_plainId F.plain_set_update_loop _]
    show wpAny _ A.in1 (pyNext (.ref I) >>= _) _ _ s
    refine wpAny_bind (W.done s _ _ hst fun s' mv => ?_)
    show wpAny _ A.in1 (ret Value.none) _ _ s'
    refine wpAny_pure (hR s' m hm (mv.mono hsub) (SetS.stay ?_ fun o e => mv.heap T o hTw e))
    rw [← hsz, List.take_length] at hS
    exact hS
  | succ k ih =>
    intro i s hk hi hst ⟨m, hm, hS⟩ hR
    have hlt : i < n := by omega
    refine codeAny_builtin F.entry_set_update_loop ?_
    rw [Around.under_plainId F.plain_set_update_loop _]
    show wpAny _ A.in1 (pyNext (.ref I) >>= _) _ _ s
    refine wpAny_bind (W.item i s _ _ hlt hst fun v s' hP hst' mv => ?_)
    obtain ⟨t, rfl⟩ := hval i v hP
    have hS' : SetS P w s'.heap T (inL (xs.take i)) m := hS.stay fun o e => mv.heap T o hTw e
    show wpAny _ A.in1 (holding [Value.str (xs.getD i Str.empty) t] (setAdd T (.str (xs.getD i Str.empty) t)) >>= _) _ _ s'
    refine wpAny_bind (wpAny_holding ?_)
    unfold setAdd
    refine wpAny_holding (wpAny_bind ((strKind P w).pyHash (k := xs.getD i Str.empty) (strKind_is _ _ _ _) ?_))
    refine setS_add (s := { s' with toks := s'.toks + 1 }) hS' (by unfold scanBound; omega) fun h' b hsb hS2 => ?_
    have key : ∀ c : Str, (inL (xs.take i) c || decide (c = xs.getD i Str.empty)) = inL (xs.take (i + 1)) c := fun c => by
      have hx : xs[i]? = some (xs.getD i Str.empty) := by
        rw [List.getD_eq_getElem?_getD, List.getElem?_eq_getElem (by omega)]; rfl
      unfold inL
      rw [Bool.eq_iff_iff, Bool.or_eq_true, decide_eq_true_eq, decide_eq_true_eq, decide_eq_true_eq, List.take_succ, hx]
      simp
    have hS3 : ∃ m', m' ≤ i + 1 ∧ SetS P w h' T (inL (xs.take (i + 1))) m' := by
      have e : (fun j => inL (xs.take i) j || decide (j = xs.getD i Str.empty)) = inL (xs.take (i + 1)) := funext key
      rw [e] at hS2
      refine ⟨_, ?_, hS2⟩
      split <;> omega
    refine wpAny_pure ⟨plainId_quiet F.plain_set_update_loop _, ih (i + 1) _ (by omega) hlt (W.frame _ s' _ _ hst' (Nat.le_succ _) fun b hb o e => ?_) hS3 fun s2 m2 hm2 mv2 hS4 => ?_⟩
    · rw [hsb.2 b (fun h : b = T => hT (by rw [← h]; exact hb))]; exact e
    · refine hR s2 m2 hm2 (Moved.trans W.gtrans ((mv.mono hsub).then_heap (Nat.le_succ _) fun b o hb e => ?_) mv2) hS4
      rw [hsb.2 b (fun h : b = T => hb (by rw [h]; exact List.mem_cons_self))]; exact e
end
section
variable {P : Program} {w : World} {A : Around} {E : Value → Shared → Prop} {s : Shared}
set_option maxHeartbeats 6400000 in
/-- set(xs), xs a list of texts -/
theorem set_texts {l : Addr} {items : Array Value} {xs : List Str} {Q : Value → Shared → Prop} (hh : A.handled = none) (hl : s.heap.IsList l items) (hi : StrsAre items.toList xs) (hn : xs.length < 4000)
    (h : ∀ (h' : Heap) (tk m : Nat), m ≤ xs.length → SetS P w h' s.heap.objs.size (inL xs) m → (∀ b o, s.heap.get? b = some o → h'.get? b = some o) → Q (.ref s.heap.objs.size) { s with heap := h', toks := tk }) :
    wpAny (model P w) A (call (.type "set") [.ref l]) Q E s := by
  obtain ⟨c, tl, hmro⟩ := F.called_set.mro
  have hmade := F.called_set.made
  have hsub := F.called_set.sub
  refine wpAny_call (codeAny_of_tree ?_)
  show wpAny _ _ (callAny (.type "set") _) _ _ _
  refine wpAny_pure ⟨Code.quiet_builtin _ (by decide +kernel), codeAny_builtin F.entry_type_call ?_⟩
  rw [Around.under_plain (weight_type_call_type "set" [.ref l] []) rfl]
  have h1 := F.called_set.notType
  have h2 := F.called_set.canCreate
  have hct := F.typeCall_set_1 (.ref l)
  repeat (any_goals (first | assumption | wp_step))
  refine codeAny_mono (code_set_led1 (.ref l) (E := E) (Q₁ := fun obj s₁ => obj = .ref s.heap.objs.size ∧ s₁ = { s with heap := s.heap.push { cls := .type "set", dict := none, data := .set #[] 0 (.fresh 0 0 (!w.params.followText "set-order")) } }) ⟨rfl, rfl⟩) fun r s₁ hr => ?_
  cases r with
  | error e => exact hr
  | ok fl =>
    cases fl with
    | ret obj =>
      obtain ⟨rfl, rfl⟩ := hr
      have hS : (s.heap.push { cls := .type "set", dict := none, data := .set #[] 0 (.fresh 0 0 (!w.params.followText "set-order")) }).get? s.heap.objs.size = some { cls := .type "set", dict := none, data := .set #[] 0 (.fresh 0 0 (!w.params.followText "set-order")) } := Heap.get?_push_size _ rfl
      have hT : Shared.TypeIs { s with heap := s.heap.push { cls := .type "set", dict := none, data := .set #[] 0 (.fresh 0 0 (!w.params.followText "set-order")) } } (.ref s.heap.objs.size) "set" := ⟨_, hS, rfl⟩
      have hli := F.called_set.init.lookup
      have hbi := F.called_set.init.bind (.ref s.heap.objs.size)
      repeat (any_goals (first | assumption | wp_step))
      refine codeAny_mono (codeAny_call_builtin (R := wants (fun r s₂ => r = .none ∧ ∃ h' tk m, s₂ = { s with heap := h', toks := tk } ∧ m ≤ xs.length ∧ SetS P w h' s.heap.objs.size (inL xs) m ∧
          (∀ b o, s.heap.get? b = some o → h'.get? b = some o)) E) F.called_set.init.plain F.entry_set_init (check_set_init_1 hT ?_)) fun r₂ s₂ hr₂ => ?_
      · obtain ⟨ol, hol, hcl, nl, hdl⟩ := hl
        obtain ⟨ocls, odict, odata, oslots⟩ := ol
        simp only at hcl hdl
        subst hcl; subst hdl
        have hol' : (s.heap.push { cls := .type "set", dict := none, data := .set #[] 0 (.fresh 0 0 (!w.params.followText "set-order")) }).get? l = some { cls := .type "list", dict := odict, data := .seq items nl, slots := oslots } := Heap.get?_push_of_some _ hol
        have hsls := F.sub_list_set
        have hslf := F.sub_list_frozenset
        have hne : (Value.type "list" == Value.type "dict") = false := by decide
        have hl1 : (s.heap.push { cls := .type "set", dict := none, data := .set #[] 0 (.fresh 0 0 (!w.params.followText "set-order")) }).IsList l items := ⟨_, hol', rfl, nl, rfl⟩
        unfold Builtin.«set.__init__» noKeywords Builtin.Frozenset.updateFrom
        generalize hPI : pyIter = PI
        wp_walk
        subst hPI
        refine wpAny_pyIter_list hl1 ?_
        refine wpAny_bind (wpAny_runValue ?_)
        have hlS : l < s.heap.objs.size := Heap.lt_size hol
        have hh3 : A.in1.in1.in1.handled = none := by simp [hh]
        have hneI : l ≠ (s.heap.push { cls := .type "set", dict := none, data := .set #[] 0 (.fresh 0 0 (!w.params.followText "set-order")) }).objs.size := by
          rw [Heap.size_push]; exact Nat.ne_of_lt (Nat.lt_succ_of_lt hlS)
        have hSf : s.heap.objs.size ∉ [(s.heap.push { cls := .type "set", dict := none, data := .set #[] 0 (.fresh 0 0 (!w.params.followText "set-order")) }).objs.size, l] := by
          rw [Heap.size_push]; simp only [List.mem_cons, List.mem_singleton, List.not_mem_nil, or_false, not_or]
          exact ⟨Nat.ne_of_lt (Nat.lt_succ_self _), Nat.ne_of_gt hlS⟩
        have hsz : xs.length = items.size := by rw [← StrsAre.len_eq hi, Array.length_toList]
        have hval : ∀ (i : Nat) (v : Value), items[i]? = some v → ∃ t, v = .str (xs.getD i Str.empty) t := fun i v hv => SS.strs_at hi i v (by rw [Array.getElem?_toList]; exact hv)
        refine setS_loop ((Walks.list hh3 _ l hneI items).toS) s.heap.objs.size hSf xs hsz (by omega) hval (items.size - 0) 0 _ (by omega) (Nat.zero_le _)
          ⟨⟨_, Heap.get?_push_size _ rfl, rfl, rfl⟩, (hl1.push _)⟩ ⟨0, Nat.le_refl _, ?hS0⟩ ?hR
        case hS0 =>
          have hget : ((s.heap.push { cls := .type "set", dict := none, data := .set #[] 0 (.fresh 0 0 (!w.params.followText "set-order")) }).push { cls := .type "list_iterator", data := .fields #[.ref l, .int 0 0] }).get? s.heap.objs.size = some { cls := .type "set", dict := none, data := .set #[] 0 (.fresh 0 0 (!w.params.followText "set-order")) } := Heap.get?_push_of_some _ hS
          exact setS_fresh hget
        case hR =>
          intro s' m hm mv hS'
          obtain ⟨h', g', d', tk', os'⟩ := s'
          have eg : g' = s.gens := mv.gens
          have ed : d' = s.drawn := mv.drawn
          have eo : os' = s.os := mv.os
          subst eg; subst ed; subst eo
          show wpAny _ _ _ _ _ _
          refine wpAny_pure ?_
          show wpAny _ _ (ret Value.none) _ _ _
          refine wpAny_pure ⟨rfl, h', tk', m, rfl, by omega, hS', fun b o e => ?_⟩
          have hb := Heap.lt_size e
          have hb1 : b ≠ s.heap.objs.size := Nat.ne_of_lt hb
          have hb2 : b ≠ (s.heap.push { cls := .type "set", dict := none, data := .set #[] 0 (.fresh 0 0 (!w.params.followText "set-order")) }).objs.size := by
            rw [Heap.size_push]; exact Nat.ne_of_lt (Nat.lt_succ_of_lt hb)
          exact mv.heap b o (by simp only [List.mem_cons, List.mem_singleton, List.not_mem_nil, or_false, not_or]; exact ⟨hb1, hb2⟩) (Heap.get?_push_of_some _ (Heap.get?_push_of_some _ e))
      · cases r₂ with
        | error e => exact hr₂
        | ok fl₂ =>
          cases fl₂ with
          | ret r =>
            obtain ⟨rfl, h', tk, m, rfl, hm, hS', hk'⟩ := hr₂
            repeat (any_goals (first | assumption | wp_step))
            exact h _ _ _ hm hS' hk'
          | _ => exact hr₂.elim
    | _ => exact hr.elim
theorem strs_txt : ∀ (l : List Value), (∀ v ∈ l, ∃ k tk, v = Value.str k tk) → StrsAre l (l.map fun v => txtE (0, v))
  | [], _ => .nil
  | v :: l, h => by
    obtain ⟨k, tk, rfl⟩ := h v List.mem_cons_self
    exact .cons k tk (strs_txt l fun u hu => h u (List.mem_cons_of_mem _ hu))
end
/-- the set of texts at a, as a thing of the layer -/
def SetTx (P : Program) (w : World) (a : Addr) (S : Str → Bool) (n : Nat) : HO := .ext fun h => SetS P w h a S n
section
variable {X : Cx}
theorem setTx_new {P : Program} {w : World} {H : Hp} {h : Heap} {a : Addr} {S : Str → Bool} {n : Nat} (R : SetS P w h a S n) : ObjOk P w H h a (SetTx P w a S n) := by
  have ⟨o, _, _, _, ho, _⟩ := R
  exact ⟨R, ⟨o, ho⟩, fun h1 h2 p k => p.stay k⟩
/-- set(xs), xs a list of texts -/
def rSetTx (K : PySem.W.Frag) (P : Program) (w : World) : List V → Hp → VK → Prop := fun vs H Q => ∃ (l : Addr) (xs : List Str), vs = [V.ref l] ∧ SqL K H l (xs.map V.str) ∧ xs.length < 4000 ∧
  ∀ (m : Nat) (p : Addr), m ≤ xs.length → H p = none → Q (.ref p) (upd H p (SetTx P w p (inL xs) m))
theorem cr_setTx (hc : X.calm = true) : CallR X (.type "set") (rSetTx X.K X.prog X.w) := by
  intro pins s σ H vs us Q I r q
  obtain ⟨l, xs, rfl, hs, hn, q⟩ := q
  obtain ⟨its, rv, hl, _⟩ := I.list hs
  rw [Vals.ref1 r]
  refine set_texts (I.ok.hd hc) hl.isList rv.strs hn fun h' tk m hm hS hk => ?_
  exact ⟨.ref s.heap.objs.size, upd H s.heap.objs.size (SetTx X.prog X.w s.heap.objs.size (inL xs) m), I.laid (t' := tk) hk (Nat.le_refl _) (setTx_new hS), rfl, q m _ hm (I.hok.fresh (Nat.le_refl _))⟩
/-- sorted(a set of texts) -/
def rSortTx (P : Program) (w : World) : List V → Hp → VK → Prop := fun vs H Q => ∃ (a : Addr) (S : Str → Bool) (n : Nat), vs = [V.ref a] ∧ H a = some (SetTx P w a S n) ∧ n ≤ 1000 ∧
  ∀ (ys : List Str) (p : Addr), sortedS ys = true → ys.Nodup → (∀ k : Str, k ∈ ys ↔ S k = true) → ys.length = n → H p = none → Q (.ref p) (upd H p (.lst (ys.map V.str)))
theorem cr_sortTx (hc : X.calm = true) : CallR X (.builtin "sorted") (rSortTx X.prog X.w) := by
  intro pins s σ H vs us Q I r q
  obtain ⟨a, S, n, rfl, ha, hn64, q⟩ := q
  have R : SetS X.prog X.w s.heap a S n := (I.hok a _ ha).1
  rw [Vals.ref1 r]
  obtain ⟨o, es, ep, t, ho, hex, hd, g, nd, hm, hb, hf, hn, hr, hl⟩ := R
  refine Calls.call_function_entry kind_sorted plain_sorted entry_sorted (args_sorted1 _) ?_
  unfold Builtin.«sorted»
  refine wpAny_bind (m := checkCount "sorted" 1 1 _) (wpAny_pure ?_)
  refine wpAny_bind (collect_set (A := X.A.in1) (I.ok.hd hc) ⟨o, ho, hex.1, hd⟩ hf hb hr hl fun s1 vs k1 hz g1 o1 pm => ?_)
  have hvl : vs.length = n := by rw [pm.length_eq, List.length_map, Array.length_toList]; exact hn
  have hS : StrsAre vs (vs.map fun v => txtE (0, v)) := strs_txt vs fun v hv => by
    obtain ⟨e, he, qe⟩ := List.mem_map.mp (pm.mem_iff.mp hv)
    obtain ⟨k, tk, h1, _⟩ := g e he
    exact ⟨k, tk, by rw [← qe]; exact h1⟩
  have pk : (vs.map fun v => txtE (0, v)).Perm (es.toList.map txtE) := by
    have q := pm.map fun v => txtE (0, v)
    rw [List.map_map] at q
    exact q
  have hzl : vs.length ≤ sizeLine := by rw [hvl, sizeLine_eq]; omega
  refine wpAny_bind (wpAny_newList ?_ hzl)
  have hoL : (s1.heap.push (seqObj "list" vs.toArray 0)).get? s1.heap.objs.size = some (seqObj "list" vs.toArray 0) := Heap.get?_push_size _ rfl
  refine wpAny_bind (wpAny_holding (wpAny_call_entry slot_list_sort ⟨_, hoL, rfl⟩ entry_list_sort
    (list_sort_treeKAny strKind_oneLt hoL hS.keysOf (fun v₁ v₂ rest e => keyKind_strs (by rw [← e]; exact hS)) hzl fun st' hp hs => ⟨_, rfl, ?_⟩) (args_list_sort _)))
  obtain ⟨ys, a1, a2, a3⟩ := sorted_out_str hS hp hs
  obtain ⟨c, hc'⟩ := sortedHeap_at (vs := vs) (out := (arrOf st').map (·.2)) hoL
  have pn : ys.Perm (es.toList.map txtE) := a2.trans pk
  have hyl : ys.length = n := by rw [pn.length_eq, List.length_map, Array.length_toList]; exact hn
  have hlen : (ys.map V.str).length ≤ sizeLine := by rw [List.length_map, hyl, sizeLine_eq]; omega
  have kk : ∀ b u, s.heap.get? b = some u → (sortedHeap (s1.heap.push (seqObj "list" vs.toArray 0)) s1.heap.objs.size vs ((arrOf st').map (·.2))).get? b = some u := fun b u e => by
    have q := k1 b u e
    have hlt := Heap.lt_size q
    rw [sortedHeap_old (Nat.ne_of_lt hlt) (by rw [size_push']; exact Nat.lt_succ_of_lt hlt)]
    exact Heap.get?_push_of_some _ q
  have hp0 : H s1.heap.objs.size = none := I.hok.fresh hz
  refine wpAny_pure ⟨_, rfl, ?_⟩
  obtain ⟨hp1, gs1, dr1, tk1, os1⟩ := s1
  dsimp only at g1 o1 hz kk hp0 hc'
  have J : Inv X pins σ (upd H hp1.objs.size (.lst (ys.map V.str))) { s with heap := sortedHeap (hp1.push (seqObj "list" vs.toArray 0)) hp1.objs.size vs ((arrOf st').map (·.2)), gens := s.gens, drawn := dr1, toks := tk1 } :=
    I.call (ch := []) (Un.laid kk hz hp0) (I.hok.laid kk hz ⟨hlen, ((arrOf st').map (·.2)).toList, c, vals_of_strs a1, by rw [Array.toArray_toList]; exact hc'⟩) I.bare (fun _ z => nomatch z)
  subst g1 o1
  exact ⟨.ref hp1.objs.size, _, J, rfl, q ys _ a3 (pn.nodup_iff.mpr nd) (fun k => by rw [pn.mem_iff, ← hm k]) hyl hp0⟩
end
end Km
end

section
set_option Elab.async false
set_option linter.all false
set_option maxRecDepth 100000
set_option maxHeartbeats 4000000
/-! Rules of our own: xs[i] op= e, own +, d.values(), min of texts, list(reversed(xs)), isinstance of a caught error with a dict of its own. -/
namespace Km
open PySem PySem.Spec PyProof.Rows L2
section
variable {X : Cx}
/-- two readings of one expression -/
theorem pe_or2 {e : Expr} {t1 t2 : TE} (h1 : PE X e t1) (h2 : PE X e t2) : PE X e (fun σ H Q => t1 σ H Q ∨ t2 σ H Q) :=
  ⟨fun pins s σ H Q I h => h.elim (h1.run pins s σ H Q I) (h2.run pins s σ H Q I)⟩
/-- xs[i] by values -/
def rGetL (K : PySem.W.Frag) : V → V → Hp → VK → Prop := fun o i H Q => ∃ p xs k v, o = .ref p ∧ i = .int k ∧ SqL K H p xs ∧ atI xs k = some v ∧ Q v H
theorem get_list : PGet X (rGetL X.K) := by
  intro pins s σ H o i ov iv Q I ro ri h
  obtain ⟨p, xs, k, z, rfl, rfl, hq, he, q⟩ := h
  cases ro
  obtain ⟨t, rfl⟩ := ri
  obtain ⟨its, r, pl, hz⟩ := I.list hq
  obtain ⟨j, h1, h2, h3, h4, h5⟩ := atI_get he
  obtain ⟨w, ew, rw'⟩ := r.get h2
  have hl := r.length
  have hn := line63
  have fin : EP X pins σ Q w s := ⟨z, H, I, rw', q⟩
  by_cases h0 : 0 ≤ k
  · have hj : k.toNat = j := by
      rw [seqIndex_of h0 h5] at h1
      exact Option.some.inj h1
    exact wpAny_getItem_list pl.isList h0 (by omega) (by rw [hj]; simpa using ew) fin
  · have hj : (k + (its.toArray.size : Int)).toNat = j := by
      rw [seqIndex_neg (by omega) h4] at h1
      rw [List.size_toArray, ← hl]
      exact Option.some.inj h1
    exact wpAny_getItem_list_neg pl.isList (by omega) (by rw [List.size_toArray] <;> omega) (by omega) (by rw [hj]; simpa using ew) fin
/-- x + y, two instances of the class at C that has its own __add__ at f -/
def rAddOwn (C : Addr) (sp : Sp) (E : XK) : R2 := fun x y H Q => ∃ a dx fs b dy gs, x = .ref a ∧ y = .ref b ∧ H a = some (.ins C dx fs) ∧ H b = some (.ins C dy gs) ∧ sp [.ref a, .ref b] H Q E
theorem op_addOwn {C f : Addr} {CX : CXT} {k : Nat} {fd : FuncData} {ps : List Str} {sp : Sp} {E : XK} (hc : PySem.W.selfFirst X.K C = true) (M : Meth X.K C "__add__" f) (F : FnOk X.prog X.w X.K X.mg X.base CX k f fd ps sp) (hr : Room k X.A)
    (hb : Binds X.K fd ps []) (hx : Passes CX X E) : OpR X (binaryOp .Add) (rAddOwn C sp E) := by
  intro pins s σ H x y v u Q I rx ry h
  obtain ⟨a, dx, fs, b, dy, gs, rfl, rfl, ha, hb', q⟩ := h
  cases (show v = Value.ref a from rx)
  cases (show u = Value.ref b from ry)
  obtain ⟨mA, O, _⟩ := ins_get I.hok ha
  obtain ⟨od, J, _⟩ := O.look
  obtain ⟨mB, O2, _⟩ := ins_get I.hok hb'
  obtain ⟨od2, J2, _⟩ := O2.look
  obtain ⟨m, hF⟩ := I.fr
  refine PySem.W.binop_K (op := .Add) hF I.ok.mod.kin J J2.type hc M.at_ M.fn ?_
  refine wpAny_mono (run_fn (us := [.ref a, .ref b]) (vs := [.ref a, .ref b]) F hr hb .nil hx I (.cons rfl (.cons rfl .nil)) q) (fun w s' z => ?_) fun _ _ e => e
  obtain ⟨z', H', I', rz, qz⟩ := z
  have nb : w ≠ .notImplemented := fun e => by
    subst e
    cases z' with
    | int i => obtain ⟨t, e⟩ := rz; cases e
    | str i => obtain ⟨t, e⟩ := rz; cases e
    | byt i => obtain ⟨t, e⟩ := rz; cases e
    | flt i => obtain ⟨t, e⟩ := rz; cases e
    | _ => cases rz
  have fin : EP X pins σ Q w s' := ⟨z', H', I', rz, qz⟩
  unfold PySem.W.CmpBack
  cases w <;> first | exact absurd rfl nb | exact fin
/-- min(xs) of a list of texts -/
def rMinS (K : PySem.W.Frag) : List V → Hp → VK → Prop := fun vs H Q => ∃ (a : Addr) (x : Str) (xs : List Str), vs = [V.ref a] ∧ SqL K H a ((x :: xs).map V.str) ∧ Q (.str (PySem.W.minOf x xs)) H
theorem reads_strs {h : Heap} {us : List Value} {xs : List Str} (r : StrsAre us xs) : PySem.ReadsAll h us (xs.map fun x => PyData.str x) [] := by
  induction r with
  | nil => exact .nil
  | cons y t _ ih => exact PySem.ReadsAll.cons (.str y t) ih
theorem holds_strs {h : Heap} {us : List Value} {xs : List Str} (r : StrsAre us xs) : PySem.W.HoldAll h us xs := ⟨[], reads_strs r⟩
theorem cr_minS {k : Nat} (hc : X.calm = true) (hr : Room k X.A) : CallR X (.builtin "min") (rMinS X.K) := by
  intro pins s σ H vs us Q I r h
  obtain ⟨a, x, xs, rfl, hs, q⟩ := h
  obtain ⟨its, rv, hl, _⟩ := I.list hs
  rw [Vals.ref1 r]
  refine PySem.W.min_list_datum (x := x) (xs := xs) (I.ok.hd hc) hl.isList (holds_strs (by simpa using rv.strs)) ?_ fun i v h' tk hv hh hk => ?_
  · have := hr.units
    show X.A.units + 1 + 0 < cLine
    omega
  · obtain ⟨as, rd⟩ := hh
    have rd : PySem.Reads h' v (PyData.str (PySem.W.minOf x xs)) as := rd
    cases rd
    exact ⟨.str (PySem.W.minOf x xs), H, I.kept (t' := tk) hk, ⟨_, rfl⟩, q⟩
/-! ### d.values() -/
def VwO (p a : Addr) : HO := .ext fun h => h.IsValuesView p a
theorem vwO_new {P : Program} {w : World} {H : Hp} {h : Heap} {p a : Addr} (R : h.IsValuesView p a) : ObjOk P w H h p (VwO p a) := by
  have ⟨o, ho, _⟩ := R
  exact ⟨R, ⟨o, ho⟩, fun h1 h2 ⟨o, ho, r⟩ k => ⟨o, k o ho, r⟩⟩
def rDVals : V → List V → Hp → VK → Prop := fun x xs H Q => ∃ (a : Addr) (kvs : List (Key × V)), x = .ref a ∧ xs = [] ∧ H a = some (.dK kvs) ∧ ∀ p, H p = none → p ≠ a → Q (.ref p) (upd H p (VwO p a))
theorem mt_dvals : MtR X "dict.values" rDVals := by
  intro pins s σ H x xs v us Q I rx rv h
  obtain ⟨a, kvs, rfl, rfl, ha, q⟩ := h
  cases (show v = Value.ref a from rx)
  have hus := rv.zero
  subst hus
  obtain ⟨_, hsys, vs, rel, dof⟩ := dk_of I.hok ha
  refine call_meetsIn F.slot_dict_values dof.typeIs F.entry_dict_values (F.args_dict_values_1 _) (meets_dict_values (mixKind X.prog X.w) a hsys) ⟨⟨vs, dof⟩, ?_⟩
  have hp := I.hok.fresh (Nat.le_refl _)
  exact ⟨.ref _, upd H s.heap.objs.size (VwO s.heap.objs.size a), I.laid (t' := s.toks) (fun b u e => Heap.get?_push_of_some _ e) (Nat.le_refl _) (vwO_new ⟨_, Heap.get?_push_size _ rfl, rfl, rfl⟩), rfl, q _ hp (fun e => by rw [e, ha] at hp; cases hp)⟩
/-- sum(d.values()) of a dict with int values -/
def rSumVals : List V → Hp → VK → Prop := fun vs H Q => ∃ (p a : Addr) (kvs : List (Key × V)) (is : List Int), vs = [V.ref p] ∧ H p = some (VwO p a) ∧ H a = some (.dK kvs) ∧ kvs.map (·.2) = is.map V.int ∧ Q (.int is.sum) H
theorem sum_take_succ' : ∀ (l : List Int) (j : Nat), (l.take (j + 1)).sum = (l.take j).sum + l.getD j 0
  | [], j => by simp
  | a :: l, 0 => by simp
  | a :: l, j + 1 => by
    have ih := sum_take_succ' l j
    simp only [List.take_succ_cons, List.sum_cons, List.getD_cons_succ] at ih ⊢
    omega
theorem vals_int {κ : Type} {kvs : List (κ × V)} {vs : List (κ × Value)} {is : List Int} (rel : KV kvs vs) (hv : kvs.map (·.2) = is.map V.int) (i : Nat) (v : Value) (h : ∃ k, vs[i]? = some (k, v)) : ∃ t, v = Value.int (is.getD i 0) t := by
  obtain ⟨k, hk⟩ := h
  obtain ⟨x, h1, h2⟩ := KV.at' rel hk
  have e1 : (kvs.map (·.2))[i]? = some x := by rw [List.getElem?_map, h1] <;> rfl
  rw [hv, List.getElem?_map] at e1
  obtain ⟨j, hj, e2⟩ := Option.map_eq_some_iff.mp e1
  subst e2
  obtain ⟨t, e3⟩ := h2
  exact ⟨t, by rw [e3, List.getD_eq_getElem?_getD, hj] <;> rfl⟩
theorem preSum_getD (is : List Int) : ∀ j, preSum (fun i => is.getD i 0) j = (is.take j).sum
  | 0 => by simp [preSum]
  | j + 1 => by
    rw [preSum, preSum_getD is j]
    exact (sum_take_succ' is j).symm
theorem cr_sumVals (hc : X.calm = true) : CallR X (.builtin "sum") rSumVals := by
  intro pins s σ H vs us Q I r h
  obtain ⟨p, a, kvs, is, rfl, hp, ha, hv, q⟩ := h
  rw [Vals.ref1 r]
  have hview : s.heap.IsValuesView p a := (I.hok p _ hp).1
  obtain ⟨_, hsys, vs, rel, dof⟩ := dk_of I.hok ha
  obtain ⟨ep, dat⟩ := dof.dictAt
  obtain ⟨ob, es, ho, _⟩ := id dat
  have hlt : a < s.heap.objs.size := Heap.lt_size ho
  have hlv : vs.length = is.length := by
    have e1 := congrArg List.length hv
    rw [List.length_map, List.length_map] at e1
    rw [← e1]
    exact (KV.length rel).symm
  refine call_sum_walkG (wpAny_pyIter_values hview dat ?_)
  refine ⟨_, _, _, _, _, _, fun i => is.getD i 0, rfl, Walks.dictValues (knd := mixKind X.prog X.w) (A := X.A.in1) (I.ok.hd hc) s.heap.objs.size a (Nat.ne_of_lt hlt) vs ep,
    ⟨⟨_, Heap.get?_push_size _ rfl, rfl, rfl⟩, dat.keep fun b u e => Heap.get?_push_of_some _ e⟩, fun b hb => ?_, vals_int rel hv, fun h' tk t' hk => ?_⟩
  · show b < (s.heap.push _).objs.size
    rw [Heap.size_push]
    rcases List.mem_cons.mp hb with e | hb
    · rw [e]
      exact Nat.lt_succ_self _
    · have e : b = a := List.mem_singleton.mp hb
      rw [e]
      exact Nat.lt_succ_of_lt hlt
  · have e : preSum (fun i => is.getD i 0) vs.length = is.sum := by
      rw [hlv, preSum_getD, List.take_length]
    rw [e]
    refine ⟨.int is.sum, H, I.kept (t' := tk) fun b u e => hk b u (fun hm => ?_) (Heap.get?_push_of_some _ e), ⟨t', rfl⟩, q⟩
    have e1 : b = s.heap.objs.size := List.mem_singleton.mp hm
    have e2 := Heap.lt_size e
    rw [e1] at e2
    exact absurd e2 (Nat.lt_irrefl _)
/-- list(d.values()) -/
def rListVals : List V → Hp → VK → Prop := fun vs H Q => ∃ (p a : Addr) (kvs : List (Key × V)), vs = [V.ref p] ∧ H p = some (VwO p a) ∧ H a = some (.dK kvs) ∧ ∀ l, H l = none → Q (.ref l) (upd H l (.lst (kvs.map (·.2))))
theorem cr_listVals (hc : X.calm = true) : CallR X (.type "list") rListVals := by
  intro pins s σ H vs us Q I r h
  obtain ⟨p, a, kvs, rfl, hp, ha, q⟩ := h
  rw [Vals.ref1 r]
  have hview : s.heap.IsValuesView p a := (I.hok p _ hp).1
  obtain ⟨hz, hsys, vs, rel, dof⟩ := dk_of I.hok ha
  obtain ⟨ep, dat⟩ := dof.dictAt
  have hl : kvs.length = vs.length := Paired.length rel
  refine PySem.W.kdl_call (PySem.W.kdl_values (knd := mixKind X.prog X.w) (kvs := vs) (ep := ep)) (I.ok.hd hc) ⟨hview, dat⟩ (by rw [← hl]; exact hz) fun h' tk acc c' hk hS hacc => ?_
  refine ⟨.ref s.heap.objs.size, upd H s.heap.objs.size (.lst (kvs.map (·.2))), I.laid hk (Nat.le_refl _) (show ObjOk X.prog X.w _ _ _ (.lst (kvs.map (·.2))) from ⟨?_, acc.toList, c', ?_, ?_⟩), rfl, q _ (I.hok.fresh (Nat.le_refl _))⟩
  · rw [List.length_map]; exact hz
  · have el : acc.toList.length = acc.size := by simp
    refine vals_of_at (by rw [List.length_map, el, hacc.1, hl]) fun j x w h1 h2 => ?_
    obtain ⟨k, hky⟩ := hacc.2 j w (by rw [← Array.getElem?_toList]; exact h2)
    obtain ⟨y, h3, h4⟩ := KV.at' rel hky
    rw [List.getElem?_map, h3] at h1
    cases h1
    exact h4
  · rw [Array.toArray_toList]
    exact hS
end
end Km
end

section
set_option Elab.async false
set_option linter.all false
set_option maxRecDepth 100000
set_option maxHeartbeats 4000000
/-! Walks of our own: enumerate over a tuple, zip over a text and a tuple, list(reversed(a list)). -/
namespace PySem
set_option maxHeartbeats 1000000 in
theorem km_meets_enum {v : Value} {o : Obj} {H : Heap → Prop} (B : Begins v o H) :
    Meets (Builtin.«enumerate.__new__» ⟨[.type "enumerate", v], []⟩) (fun _ R s => H s.heap ∧
      R (.ok (.ret (.ref (s.heap.push o).objs.size))) { s with heap := (s.heap.push o).push { cls := .type "enumerate", data := .fields #[.none, .bool false, .ref s.heap.objs.size, rawInt 0, .none, .none] } }) :=
  .of_wp fun prog w A R s h => by
    obtain ⟨hp, g, d, tk, os⟩ := s; obtain ⟨h1, h⟩ := h
    have hsub := sub_enumerate
    have q1 : ∀ {A' : Around} {E : Value → Shared → Prop} {Q : Value → Shared → Prop}, Q (.ref hp.objs.size) ⟨hp.push o, g, d, tk, os⟩ → wpAny (model prog w) A' (pyIter v) Q E ⟨hp, g, d, tk, os⟩ :=
      fun q => B.iter prog w _ _ ⟨hp, g, d, tk, os⟩ _ h1 q
    wp_walk using q1
    refine wpAny_stack_any fun st => wpAny_pure ?_
    split
    · rename_i c _ _ _ _ _
      cases (c == Value.type "enumerate")
      · wp_walk using q1
        exact ⟨_, rfl, h⟩
      · wp_walk using q1
        exact ⟨_, rfl, h⟩
    · wp_walk using q1
      exact ⟨_, rfl, h⟩
section
variable {prog : Program} {w : World} {A : Around} {E : Value → Shared → Prop} {s : Shared}
theorem km_call_enum {v : Value} {o : Obj} {H : Heap → Prop} {Q : Value → Shared → Prop} (B : Begins v o H) (h1 : H s.heap)
    (h : ∀ h', IsEnum h' (s.heap.objs.size + 1) s.heap.objs.size 0 .none → h'.get? s.heap.objs.size = some o →
      (∀ b o, s.heap.get? b = some o → h'.get? b = some o) → Q (.ref (s.heap.objs.size + 1)) { s with heap := h' }) :
    wpAny (model prog w) A (call (.type "enumerate") [v]) Q E s := by
  refine callType_new F.called_enumerate (by decide) (F.typeCall_enumerate_1 _) (F.newCall_enumerate_1 _) (fun obj => F.args_object_init_2 obj _) F.entry_enumerate_new
    (km_meets_enum B) ⟨h1, ?_⟩
  have hz : (s.heap.push o).objs.size = s.heap.objs.size + 1 := Heap.size_push ..
  show _ ∧ _
  rw [hz]
  have he : IsEnum ((s.heap.push o).push { cls := .type "enumerate", data := .fields #[.none, .bool false, .ref s.heap.objs.size, rawInt 0, .none, .none] }) (s.heap.objs.size + 1) s.heap.objs.size 0 .none := by
    have := Heap.get?_push_size (s.heap.push o) (o := { cls := .type "enumerate", data := .fields #[.none, .bool false, .ref s.heap.objs.size, rawInt 0, .none, .none] }) rfl
    rw [hz] at this; exact this
  exact ⟨⟨_, he, rfl⟩, h _ he (Heap.get?_push_of_some _ (Heap.get?_push_size _ B.free)) fun b o x => Heap.get?_push_of_some _ (Heap.get?_push_of_some _ x)⟩
end
end PySem
namespace Km
open PySem PySem.Spec PyProof.Rows L2
/-! ### enumerate(t), t a tuple -/
def ItET (K : PySem.W.Frag) (a : Addr) (xs : List V) : It :=
  ⟨fun i H => i < xs.length ∧ SqT K H a xs, fun i H v H' => ∃ T x, v = .ref T ∧ H T = none ∧ H' = upd H T (.tup [.int (i : Nat), x]) ∧ xs[i]? = some x, fun i H => xs.length ≤ i ∧ SqT K H a xs⟩
theorem tup_ne {h : Heap} {a b : Addr} {its : Array Value} {o : Obj} (p : IsTup h a its) (e : h.get? b = some o) (hc : o.cls ≠ .type "tuple") : a ≠ b := by
  intro z
  obtain ⟨o', e', c, _⟩ := p
  subst z
  rw [e] at e'
  cases e'
  exact hc c
theorem turn_enumT {P : Program} {w : World} {K : PySem.W.Frag} {elts : List Expr} {kk : Nat} {tpos : Pos} (a e it : Addr) (xs : List V) :
    Turn P w K (.Tuple elts kk tpos) (ItET K a xs) [e, it] e (fun i h => i ≤ xs.length ∧ (∃ old, IsEnum h e it ((i : Nat) : Int) old) ∧ h.IsTupleIter it a i ∧ e ≠ it) where
  mem := by simp
  obj := fun i h st b hb => by
    obtain ⟨_, ⟨old, he⟩, ⟨o, ho, hc, hd⟩, _⟩ := st
    have e' : b = e ∨ b = it := by simpa using hb
    rcases e' with z | z
    · rw [z]; exact ⟨_, he, fun v q => nomatch q⟩
    · rw [z]; exact ⟨o, ho, fun v q => by rw [hd] at q; cases q⟩
  keep := fun i h h' st k => let ⟨hi, ⟨old, he⟩, hit, hne⟩ := st; ⟨hi, ⟨old, k e (by simp) _ he⟩, hit.at fun o q => k it (by simp) o q, hne⟩
  item := by
    intro X hP hw hK hc i pins s σ H E I hf st hg
    subst hP hw hK
    obtain ⟨_, ⟨old, he⟩, hit, hne⟩ := st
    obtain ⟨hlt, hq⟩ := hg
    obtain ⟨its, rv, p, hz⟩ := I.tuple hq
    have hl := rv.length
    obtain ⟨oi, hoi, hci, hdi⟩ := id hit
    have ai : a ≠ it := tup_ne p hoi (by rw [hci]; decide)
    have ae : a ≠ e := tup_ne p he (fun z => by injection z with z; exact absurd z (by decide))
    have hel : e < s.heap.objs.size := Heap.lt_size he
    have hil : it < s.heap.objs.size := Heap.lt_size hoi
    have D := Draws.tuple (prog := X.prog) (w := X.w) (A := X.A.in1) (I.ok.hd hc) it a ai its.toArray
    refine wpAny_pyNext_enum_itemC D he ⟨hit, p⟩ (by simpa [← hl] using hlt) hne (by simp [hne, Ne.symm ae]) fun u h' tk hu ho hit' hT hsz hk => ?_
    refine ⟨_, rfl, wpAny_letOwnedTupleGo_enum (s := { s with heap := h', toks := tk + 1 }) ho fun h'' he' sb => ?_⟩
    obtain ⟨x, hx, ru⟩ : ∃ x, xs[i]? = some x ∧ RelV x u := by
      have e1 : xs[i]? = some xs[i] := List.getElem?_eq_getElem hlt
      obtain ⟨u', h1, h2⟩ := rv.get e1
      have h3 : its[i]? = some u := by simpa using hu
      rw [h1] at h3
      cases h3
      exact ⟨_, e1, h2⟩
    have hT2 : h''.get? s.heap.objs.size = some { cls := .type "tuple", data := .seq #[.int i tk, u] } := (sb.2 _ (Nat.ne_of_gt hel)).trans hT
    have new : ObjOk X.prog X.w (upd H s.heap.objs.size (.tup [.int (i : Nat), x])) h'' s.heap.objs.size (.tup [.int (i : Nat), x]) :=
      ⟨by show 2 ≤ sizeLine; decide, [.int i tk, u], .cons ⟨_, rfl⟩ (.cons ru .nil), ⟨_, hT2, rfl, _, rfl⟩⟩
    have I1 : Inv X pins σ (upd H s.heap.objs.size (.tup [.int (i : Nat), x])) { s with heap := h'', toks := tk + 1 } :=
      I.turnedNew (ch := [e, it]) (fun b ob hb q => (sb.2 b (fun z => hb (by simp [z]))).trans (hk b ob (fun z => hb (by simp [z])) (fun z => hb (by simp [z])) q)) hf (Nat.le_refl _) new
    refine ⟨.ref s.heap.objs.size, _, I1, rfl, ⟨_, x, rfl, I.hok.fresh (Nat.le_refl _), rfl, hx⟩, ⟨hlt, ⟨u, ?_⟩, hit'.1.at fun o q => (sb.2 it (Ne.symm hne)).trans q, hne⟩, fun b hb => ?_⟩
    · have e1 : ((i + 1 : Nat) : Int) = (i : Int) + 1 := by omega
      rw [e1]; exact he'
    · have hb' : b < s.heap.objs.size := by
        have e' : b = e ∨ b = it := by simpa using hb
        rcases e' with z | z
        · rw [z]; exact hel
        · rw [z]; exact hil
      rw [upd_ne (Nat.ne_of_lt hb')]
      exact (hf b hb).1
  done := by
    intro X hP hw hK hc i pins s σ H E I hf st hg
    subst hP hw hK
    obtain ⟨hi, ⟨old, he⟩, hit, hne⟩ := st
    obtain ⟨hx, hq⟩ := hg
    obtain ⟨its, rv, p, hz⟩ := I.tuple hq
    obtain ⟨f0, f1, f2, f3, f4, f5⟩ := hf it (by simp)
    have hl := rv.length
    obtain ⟨oi, hoi, hci, hdi⟩ := id hit
    have ai : a ≠ it := tup_ne p hoi (by rw [hci]; decide)
    have D := Draws.tuple (prog := X.prog) (w := X.w) (A := X.A.in1) (I.ok.hd hc) it a ai its.toArray
    have ei : i = its.toArray.size := by rw [List.size_toArray, ← hl]; omega
    exact wpAny_pyNext_enum_endD D he ⟨by rw [← ei]; exact hit, p⟩ fun h' eb => ⟨rfl, I.turned (t' := s.toks) (fun b o hb q => eb b o hb q) f0 f1 f3 f4 f5⟩
  self := fun A i s Q E st h => let ⟨_, ⟨_, he⟩, _⟩ := st; wpAny_pyIter_enum he h
def iEnumT (K : PySem.W.Frag) (ta : TA) : TI := fun σ H R => ta σ H fun vs H1 => ∃ a xs, vs = [.ref a] ∧ SqT K H1 a xs ∧ R (ItET K a xs) H1
theorem pi_enumT {X : Cx} {e : Expr} {ta : TA} {p pos tpos : Pos} {elts : List Expr} {kk : Nat} (hg : Gl X "enumerate") (hm : X.mg "enumerate" = none) (ha : PA X [e] ta) (hs : starEach [e] X.env = [(false, eval e X.env)] := by rfl) :
    PI X (.Tuple elts kk tpos) (.Call (.Name "enumerate" p) [e] [] pos) (iEnumT X.K ta) := by
  refine ⟨fun pins s σ H R I h => ?_⟩
  refine Call_ (ld_blt I hg hm boot_enumerate (PyProof.Rows.callWith_type1 (thn (ha.run pos pins s σ H _ I h) fun us s1 ⟨vs, H1, I1, r1, q1⟩ => ?_) hs rfl))
  obtain ⟨a, xs, ex, hq, q⟩ := q1
  subst ex
  cases r1 with
  | cons r rr =>
    cases rr
    cases r
    obtain ⟨its, rv, p', hz⟩ := I1.tuple hq
    refine km_call_enum (begins_tuple a its.toArray) p' fun h' he hit hk => wpAny_pyIter_enum he ?_
    have I2 : Inv X pins σ H1 { s1 with heap := h' } := I1.kept (t' := s1.toks) hk
    refine ⟨s1.heap.objs.size + 1, [s1.heap.objs.size + 1, s1.heap.objs.size], _, _, H1, rfl, I2, turn_enumT a (s1.heap.objs.size + 1) s1.heap.objs.size xs, ⟨Nat.zero_le _, ⟨.none, he⟩, ⟨_, hit, rfl, rfl⟩, Nat.succ_ne_self _⟩, fun b hb => ?_, q⟩
    have e' : b = s1.heap.objs.size + 1 ∨ b = s1.heap.objs.size := by simpa using hb
    have hle : s1.heap.objs.size ≤ b := by
      rcases e' with z | z
      · rw [z]; exact Nat.le_add_right _ _
      · rw [z]; exact Nat.le_refl _
    exact I1.fpOk hle (I1.hok.fresh hle)
theorem walk_enumT {K : PySem.W.Frag} {a : Addr} {xs : List V} : Walk (ItET K a xs) xs.length (fun H => SqT K H a xs) (YPair (fun i => some (.int (i : Nat))) (fun i => xs[i]?)) :=
  ⟨fun i _ hi q => ⟨hi, q⟩, fun _ q => ⟨Nat.le_refl _, q⟩, fun i H v H' _ q y => let ⟨T, x, h1, h2, h3, h4⟩ := y; ⟨T, .int (i : Nat), x, h1, h2, h3, rfl, h4⟩⟩
/-! ### zip(x, t), x a text, t a tuple -/
def ItZST (K : PySem.W.Frag) (z : Str) (b : Addr) (ys : List V) : It :=
  ⟨fun i H => i < z.cps.size ∧ i < ys.length ∧ SqT K H b ys, fun i H v H' => ∃ T c y, v = .ref T ∧ H T = none ∧ H' = upd H T (.tup [.str ⟨#[c]⟩, y]) ∧ z.cps[i]? = some c ∧ ys[i]? = some y,
    fun i H => (i = z.cps.size ∨ i = ys.length) ∧ SqT K H b ys⟩
theorem turn_zipST {P : Program} {w : World} {K : PySem.W.Frag} {elts : List Expr} {kk : Nat} {tpos : Pos} {b z TI TO i1 i2 : Addr} {x : Str} {t : Tok} {ys : List V} (S : ZipSep2 z TI TO i1 i2 [i1] [i2, b]) :
    Turn P w K (.Tuple elts kk tpos) (ItZST K x b ys) [z, TI, TO, i1, i2] z (fun i h => i ≤ x.cps.size ∧ i ≤ ys.length ∧ IsZip h z TI TO .none ∧ IsTupOf2 h TI (.ref i1) (.ref i2) ∧ (∃ x y, IsTupOf2 h TO x y) ∧ h.IsStrIter i1 (strIterType x) x t i ∧ h.IsTupleIter i2 b i) where
  mem := by simp
  obj := fun i h st c hc => by
    obtain ⟨_, _, hz, hTI, ⟨x, y, hTO⟩, ⟨o1, e1, _, d1⟩, ⟨o2, e2, _, d2⟩⟩ := st
    have e' : c = z ∨ c = TI ∨ c = TO ∨ c = i1 ∨ c = i2 := by simpa using hc
    rcases e' with q | q | q | q | q
    · rw [q]; exact ⟨_, hz, fun v q => nomatch q⟩
    · rw [q]; exact ⟨_, hTI, fun v q => nomatch q⟩
    · rw [q]; exact ⟨_, hTO, fun v q => nomatch q⟩
    · rw [q]; exact ⟨o1, e1, fun v q => by rw [d1] at q; cases q⟩
    · rw [q]; exact ⟨o2, e2, fun v q => by rw [d2] at q; cases q⟩
  keep := fun i h h' st k => by
    obtain ⟨a1, a2, hz, hTI, ⟨x, y, hTO⟩, ⟨o1, e1, r1⟩, h2⟩ := st
    exact ⟨a1, a2, k z (by simp) _ hz, k TI (by simp) _ hTI, ⟨x, y, k TO (by simp) _ hTO⟩, ⟨o1, k i1 (by simp) o1 e1, r1⟩, h2.at fun o q => k i2 (by simp) o q⟩
  item := by
    intro X hP hw hK hc i pins s σ H E I hf st hg
    subst hP hw hK
    obtain ⟨_, _, hz, hTI, ⟨x0, y0, hTO⟩, h1, h2⟩ := st
    obtain ⟨lt1, lt2, hqy⟩ := hg
    obtain ⟨its, rv, p, _⟩ := I.tuple hqy
    have hl := rv.length
    have hzl : z < s.heap.objs.size := Heap.lt_size hz
    have bi : b ≠ i2 := by
      obtain ⟨oi, hoi, hci, _⟩ := id h2
      exact tup_ne p hoi (by rw [hci]; decide)
    have D1 := Draws.text (prog := X.prog) (w := X.w) (A := X.A.in1) (I.ok.hd hc) i1 x t
    have D2 := Draws.tuple (prog := X.prog) (w := X.w) (A := X.A.in1) (I.ok.hd hc) i2 b bi its.toArray
    refine wpAny_pyNext_zipD2_item S D1 D2 hz hTI hTO h1 ⟨h2, p⟩ lt1 (by simpa [← hl] using lt2) fun u u2 h' tk hu hu2 z' TO' h1' h2' hT hsz hk => ?_
    obtain ⟨c, tc, hcx, rfl⟩ := hu
    obtain ⟨y, hy, ru2⟩ : ∃ y, ys[i]? = some y ∧ RelV y u2 := by
      have e1 : ys[i]? = some ys[i] := List.getElem?_eq_getElem lt2
      obtain ⟨u', h1, h2⟩ := rv.get e1
      have h3 : its[i]? = some u2 := by simpa using hu2
      rw [h1] at h3
      cases h3
      exact ⟨_, e1, h2⟩
    refine ⟨_, rfl, wpAny_letOwnedTupleGo_zip (s := { s with heap := h', toks := tk }) z' fun h'' z'' sb => ?_⟩
    have hT2 : h''.get? s.heap.objs.size = some { cls := .type "tuple", data := .seq #[.str ⟨#[c]⟩ tc, u2] } := (sb.2 _ (Nat.ne_of_gt hzl)).trans hT
    have new : ObjOk X.prog X.w (upd H s.heap.objs.size (.tup [.str ⟨#[c]⟩, y])) h'' s.heap.objs.size (.tup [.str ⟨#[c]⟩, y]) :=
      ⟨by show 2 ≤ sizeLine; decide, [.str ⟨#[c]⟩ tc, u2], .cons ⟨_, rfl⟩ (.cons ru2 .nil), ⟨_, hT2, rfl, _, rfl⟩⟩
    have I1 : Inv X pins σ (upd H s.heap.objs.size (.tup [.str ⟨#[c]⟩, y])) { s with heap := h'', toks := tk } :=
      I.turnedNew (t' := tk) (ch := [z, TI, TO, i1, i2]) (fun c o hb q => (sb.2 c (fun q' => hb (by simp [q']))).trans (hk c o (fun q' => hb (by simp [q'])) (fun q' => hb (by simp [q'])) (fun q' => hb (by simp [q'])) (fun q' => hb (by simp [q'])) q)) hf (Nat.le_refl _) new
    refine ⟨.ref s.heap.objs.size, _, I1, rfl, ⟨_, c, y, rfl, I.hok.fresh (Nat.le_refl _), rfl, hcx, hy⟩, ⟨lt1, lt2, z'', ?_, ⟨.str ⟨#[c]⟩ tc, u2, ?_⟩, ?_, ?_⟩, fun c hcm => ?_⟩
    · exact (sb.2 _ S.TIz).trans (hk _ _ S.TIz S.TITO S.TIi1 S.TIi2 hTI)
    · exact (sb.2 _ S.TOz).trans TO'
    · obtain ⟨o1, e1, r1⟩ := h1'
      exact ⟨o1, (sb.2 _ (Ne.symm S.zi1)).trans e1, r1⟩
    · exact h2'.1.at fun o q => (sb.2 _ (Ne.symm S.zi2)).trans q
    · have hlt : c < s.heap.objs.size := by
        have e' : c = z ∨ c = TI ∨ c = TO ∨ c = i1 ∨ c = i2 := by simpa using hcm
        rcases e' with q | q | q | q | q
        · rw [q]; exact hzl
        · rw [q]; exact Heap.lt_size hTI
        · rw [q]; exact Heap.lt_size hTO
        · rw [q]; obtain ⟨_, e1, _⟩ := h1; exact Heap.lt_size e1
        · rw [q]; obtain ⟨_, e2, _⟩ := h2; exact Heap.lt_size e2
      rw [upd_ne (Nat.ne_of_lt hlt)]
      exact (hf c hcm).1
  done := by
    intro X hP hw hK hc i pins s σ H E I hf st hg
    subst hP hw hK
    obtain ⟨le1, le2, hz, hTI, ⟨x0, y0, hTO⟩, h1, h2⟩ := st
    obtain ⟨hend, hqy⟩ := hg
    obtain ⟨its, rv, p, _⟩ := I.tuple hqy
    have hl := rv.length
    have bi : b ≠ i2 := by
      obtain ⟨oi, hoi, hci, _⟩ := id h2
      exact tup_ne p hoi (by rw [hci]; decide)
    have D1 := Draws.text (prog := X.prog) (w := X.w) (A := X.A.in1) (I.ok.hd hc) i1 x t
    have D2 := Draws.tuple (prog := X.prog) (w := X.w) (A := X.A.in1) (I.ok.hd hc) i2 b bi its.toArray
    exact wpAny_pyNext_zipD2_end S D1 D2 hz hTI hTO h1 ⟨h2, p⟩ le1 (by simpa [← hl] using le2) (by simpa [← hl] using hend) fun h' tk hk => ⟨rfl, I.turnedL (t' := tk) (ch := [z, TI, TO, i1, i2]) (fun c o hb q =>
      hk c o (fun q' => hb (by simp [q'])) (fun q' => hb (by simp [q'])) (fun q' => hb (by simp [q'])) (fun q' => hb (by simp [q'])) q) hf⟩
  self := fun A i s Q E st h => wpAny_pyIter_zip st.2.2.1 h
def iZipST (K : PySem.W.Frag) (ta : TA) : TI := fun σ H R => ta σ H fun vs H1 => ∃ x b ys, vs = [.str x, .ref b] ∧ SqT K H1 b ys ∧ R (ItZST K x b ys) H1
theorem pi_zipST {X : Cx} {e e2 : Expr} {ta : TA} {p pos tpos : Pos} {elts : List Expr} {kk : Nat} (hg : Gl X "zip") (hm : X.mg "zip" = none) (ha : PA X [e, e2] ta)
    (hs : starEach [e, e2] X.env = (false, eval e X.env) :: starEach [e2] X.env := by rfl) (hpl : (backTo pos (starEach [e2] X.env)).any (·.1) = false := by rfl) :
    PI X (.Tuple elts kk tpos) (.Call (.Name "zip" p) [e, e2] [] pos) (iZipST X.K ta) := by
  refine ⟨fun pins s σ H R I h => ?_⟩
  refine Call_ (ld_blt I hg hm PyProof.Rows.boot_zip (PyProof.Rows.callWith_type1 (thn (ha.run pos pins s σ H _ I h) fun us s1 ⟨vs, H1, I1, r1, q1⟩ => ?_) hs hpl))
  obtain ⟨x, b, ys, ex, hqy, q⟩ := q1
  subst ex
  cases r1 with
  | cons r rr =>
    cases rr with
    | cons r' rr =>
      cases rr
      obtain ⟨t, rfl⟩ := r
      cases r'
      obtain ⟨its, rv, p2, _⟩ := I1.tuple hqy
      have lb : b < s1.heap.objs.size := IsTup.lt p2
      refine zip_begins2 (begins_text x t) (begins_tuple b its.toArray) trivial p2 fun h' hz hTI hTO h1 h2 hsz hk => wpAny_pyIter_zip hz ?_
      have I2 : Inv X pins σ H1 { s1 with heap := h' } := I1.kept (t' := s1.toks) hk
      have S : ZipSep2 (s1.heap.objs.size + 4) (s1.heap.objs.size + 2) (s1.heap.objs.size + 3) s1.heap.objs.size (s1.heap.objs.size + 1) [s1.heap.objs.size] [s1.heap.objs.size + 1, b] :=
        zip_sep2 (fp1 := []) (fp2 := [b]) (fun c hc => by cases hc) (fun c hc => by rw [List.mem_singleton.mp hc]; exact lb)
      refine ⟨s1.heap.objs.size + 4, [s1.heap.objs.size + 4, s1.heap.objs.size + 2, s1.heap.objs.size + 3, s1.heap.objs.size, s1.heap.objs.size + 1], _, _, H1, rfl, I2, turn_zipST S, ⟨Nat.zero_le _, Nat.zero_le _, hz, hTI, ⟨_, _, hTO⟩, ⟨_, h1, rfl, rfl⟩, ⟨_, h2, rfl, rfl⟩⟩, fun c hcm => ?_, q⟩
      have e' : c = s1.heap.objs.size + 4 ∨ c = s1.heap.objs.size + 2 ∨ c = s1.heap.objs.size + 3 ∨ c = s1.heap.objs.size ∨ c = s1.heap.objs.size + 1 := by simpa using hcm
      have hle : s1.heap.objs.size ≤ c := by
        rcases e' with z | z | z | z | z
        · rw [z]; exact Nat.le_add_right _ _
        · rw [z]; exact Nat.le_add_right _ _
        · rw [z]; exact Nat.le_add_right _ _
        · rw [z]; exact Nat.le_refl _
        · rw [z]; exact Nat.le_add_right _ _
      exact I1.fpOk hle (I1.hok.fresh hle)
theorem walk_zipST {K : PySem.W.Frag} {x : Str} {b : Addr} {ys : List V} {n : Nat} (hn : n = min x.cps.size ys.length) : Walk (ItZST K x b ys) n (fun H => SqT K H b ys) (YPair (fun i => x.cps[i]?.map fun c => .str ⟨#[c]⟩) (fun i => ys[i]?)) := by
  subst hn
  refine ⟨fun i _ hi q => ⟨by omega, by omega, q⟩, fun _ q => ⟨by omega, q⟩, fun i H v H' _ q y => ?_⟩
  obtain ⟨T, c, y, h1, h2, h3, h4, h5⟩ := y
  exact ⟨T, _, y, h1, h2, h3, by show (x.cps[i]?.map fun c => V.str ⟨#[c]⟩) = _; rw [h4] <;> rfl, h5⟩
end Km
end

section
set_option Elab.async false
set_option linter.all false
set_option maxRecDepth 100000
set_option maxHeartbeats 4000000
/-! list(reversed(a list)). -/
namespace RT
open PySem PySem.Spec PyProof.Rows PySem.W
section
variable {prog : Program} {w : World} {A : Around} {E : Value → Shared → Prop} {s : Shared}
theorem km_rev_extend {R : Result → Shared → Prop} {it l : Addr} {items : Array Value} (hh : A.handled = none) (hit : s.heap.IsRevIter it l ((items.size : Int) - 1)) (hl : s.heap.IsList l items) (hne : l ≠ it) (hn : items.size ≤ sizeLine) (S : Addr) (hSi : S ≠ it) (hSl : S ≠ l) (res : Value) (c₀ : Nat)
    (hS : s.heap.get? S = some { cls := .type "list", data := .seq #[] c₀ })
    (hR : ∀ h' tk acc' c', (∀ b o, b ≠ S → b ≠ it → s.heap.get? b = some o → h'.get? b = some o) → h'.get? S = some { cls := .type "list", dict := none, data := .seq acc' c', slots := #[] } → ItemsOf (fun i v => items[items.size - 1 - i]? = some v) acc' items.size → R (.ok (.ret res)) { s with heap := h', toks := tk }) :
    wpAny (model prog w) A.in1 (Builtin.List.listExtendWith (.ref S) (.ref it) res)
      (fun fin s' => match fin with | .done f => R (.ok f) s' | .again c' => c'.quiet = true ∧ codeAny (model prog w) A c' R s') (fun e s' => R (.error e) s') s := by
  have W := (Walks.listRev (prog := prog) (w := w) (A := A.in1) hh it l hne items).toS
  have hSf : S ∉ [it, l] := by simp only [List.mem_cons, List.not_mem_nil, or_false, not_or]; exact ⟨hSi, hSl⟩
  have hT : s.TypeIs (.ref it) "list_reverseiterator" := Heap.IsRevIter.typeIs hit
  have h1 : Builtin.List.listSameRef (.ref S) (.ref it) = false := by simp [Builtin.List.listSameRef, hSi]
  unfold Builtin.List.listExtendWith
  refine wpAny_bind (wpAny_typeOf hT ?_)
  rw [if_neg (by rw [h1]; decide)]
  refine wpAny_bind (wpAny_pyIter_revIter hit ?_)
  refine wpAny_bind (wpAny_holding ?_)
  unfold Builtin.List.listLengthHint
  refine wpAny_bind (wpAny_specialOf hT nolen_lri ?_)
  show wpAny _ A.in1 (specialOf (Value.ref it) (Str.ofString "__length_hint__") >>= _) _ _ _
  refine wpAny_bind (wpAny_specialOf hT hint_lri ?_)
  generalize hid : ("list_reverseiterator.__length_hint__" : String) = id0
  wp_delta
  rw [show splitId id0 = some ("list_reverseiterator", "__length_hint__") from by subst hid; decide +kernel]
  subst hid
  refine wpAny_bind (wpAny_isInstance (b := true) hT (by rw [isSubtype_type]; kernel_rfl) ?_)
  refine wpAny_pure ?_
  rw [if_neg (by decide)]
  have e0 : ((items.size : Nat) : Int) - 1 - ((0 : Nat) : Int) = (items.size : Int) - 1 := by omega
  refine wpAny_pure ⟨plainId_quiet F.plain_extend_loop _, codeAny_extend_loopS W hn _ hSf _ items.size 0 _ _ _ rfl (Nat.zero_le _) ⟨Nat.zero_le _, by rw [e0]; exact hit, hl⟩ hS (ItemsOf.nil _) fun s' acc' c' hm hS' hacc => ?_⟩
  rw [Moved.eq_with hm]
  refine hR s'.heap s'.toks acc' c' (fun b o hb hi e => hm.heap b o (fun hmem => ?_) e) hS' hacc
  rcases List.mem_cons.mp hmem with e' | hmem
  · exact hb e'
  · exact hi (List.mem_singleton.mp hmem)
theorem km_list_rev {it l : Addr} {items : Array Value} {Q : Value → Shared → Prop} (hh : A.handled = none) (hit : s.heap.IsRevIter it l ((items.size : Int) - 1)) (hl : s.heap.IsList l items) (hne : l ≠ it) (hn : items.size ≤ sizeLine)
    (hQ : ∀ h' tk acc' c', (∀ b o, b ≠ it → s.heap.get? b = some o → h'.get? b = some o) → h'.get? s.heap.objs.size = some { cls := .type "list", dict := none, data := .seq acc' c', slots := #[] } → ItemsOf (fun i v => items[items.size - 1 - i]? = some v) acc' items.size → Q (.ref s.heap.objs.size) { s with heap := h', toks := tk }) :
    wpAny (model prog w) A (call (.type "list") [.ref it]) Q E s := by
  refine callType_codes (Q₁ := fun obj s₁ => obj = .ref s.heap.objs.size ∧ s₁ = { s with heap := s.heap.push { cls := .type "list", data := .seq #[] } }) PySem.F.called_list (PySem.F.typeCall_list_1 _) PySem.F.entry_list_init
    (code_list_new _ ⟨rfl, rfl⟩) fun obj s₁ h₁ => ?_
  obtain ⟨rfl, rfl⟩ := h₁
  obtain ⟨oi, hoi, _⟩ := id hit
  obtain ⟨ol, hol, _⟩ := id hl
  have hSi : s.heap.objs.size ≠ it := Nat.ne_of_gt (Heap.lt_size hoi)
  have hSl : s.heap.objs.size ≠ l := Nat.ne_of_gt (Heap.lt_size hol)
  have hS : (s.heap.push { cls := .type "list", data := .seq #[] }).get? s.heap.objs.size = some { cls := .type "list", data := .seq #[] } := Heap.get?_push_size _ rfl
  refine ⟨⟨_, hS, rfl⟩, PySem.F.args_list_init_2 _ _, ?_⟩
  show wpAny _ A.in1.in1 (do let old ← Builtin.List.listItems (.ref s.heap.objs.size); Builtin.List.listUpdate (.ref s.heap.objs.size) (fun _ => #[]); letGo old.toList.reverse; Builtin.List.listExtendWith (.ref s.heap.objs.size) (.ref it) .none) _ _ _
  refine wpAny_bind ?_
  unfold Builtin.List.listItems
  refine wpAny_bind (wpAny_seqItems hS rfl (wpAny_pure ?_))
  show wpAny _ _ (updateSeq s.heap.objs.size (fun _ => #[]) >>= fun _ => letGo (#[] : Array Value).toList.reverse >>= fun _ => Builtin.List.listExtendWith (.ref s.heap.objs.size) (.ref it) .none) _ _ _
  refine wpAny_bind (wpAny_updateSeq hS rfl ?_)
  have hS₂ := Heap.get?_update_self (Obj.mapSeq (fun _ => (#[] : Array Value))) hS rfl
  have oth : ∀ b o, b ≠ s.heap.objs.size → s.heap.get? b = some o → ((s.heap.push { cls := .type "list", data := .seq #[] }).update s.heap.objs.size (Obj.mapSeq (fun _ => (#[] : Array Value)))).get? b = some o :=
    fun b o hb e => (Heap.get?_update_other _ _ (Ne.symm hb)).trans (Heap.get?_push_of_some _ e)
  refine wpAny_bind (wpAny_letGo ?_)
  refine km_rev_extend (A := A.in1) hh (hit.at fun o e => oth it o (Ne.symm hSi) e) (hl.at fun o e => oth l o (Ne.symm hSl) e) hne hn _ hSi hSl .none _ hS₂ fun h' tk acc' c' hk hS' hacc => ?_
  exact ⟨rfl, hQ h' tk acc' c' (fun b o hb e => hk b o (Nat.ne_of_lt (Heap.lt_size e)) hb (oth b o (Nat.ne_of_lt (Heap.lt_size e)) e)) hS' hacc⟩
end
end RT
namespace Km
open PySem PySem.Spec PyProof.Rows L2
def tLstRev (K : PySem.W.Frag) (te : TE) : TE := fun σ H Q => te σ H fun v H1 => ∃ (a : Addr) (xs : List V), v = .ref a ∧ SqL K H1 a xs ∧ ∀ q, H1 q = none → Q (.ref q) (upd H1 q (.lst xs.reverse))
theorem pe_lstRev {X : Cx} {e : Expr} {te : TE} {p p2 pos pos2 : Pos} (hc : X.calm = true) (hg : Gl X "list") (hm : X.mg "list" = none) (hg2 : Gl X "reversed") (hm2 : X.mg "reversed" = none) (he : PE X e te)
    (hs : starEach [e] X.env = (false, eval e X.env) :: starEach [] X.env := by rfl)
    (hs2 : starEach [.Call (.Name "reversed" p2) [e] [] pos2] X.env = (false, eval (.Call (.Name "reversed" p2) [e] [] pos2) X.env) :: starEach [] X.env := by rfl) :
    PE X (.Call (.Name "list" p) [.Call (.Name "reversed" p2) [e] [] pos2] [] pos) (tLstRev X.K te) := by
  refine ⟨fun pins s σ H Q I h => ?_⟩
  refine Call_ (ld_blt I hg hm boot_list (PyProof.Rows.callWith_type1 (args_cons (Call_ (ld_blt I hg2 hm2 PyProof.Rows.boot_reversed (PyProof.Rows.callWith_type1 (args_cons (thn (he.run pins s σ H _ I h) fun u s1 ⟨v, H1, I1, r1, q1⟩ => args_nil ?_) hs) hs rfl))) hs2) hs2 rfl))
  obtain ⟨a, xs, ev, hq, q⟩ := q1
  subst ev
  obtain rfl : u = Value.ref a := r1
  obtain ⟨its, rv, p', hz⟩ := I1.list hq
  refine call_reversed_list p'.isList (args_nil ?_)
  have k0 : ∀ b o, s1.heap.get? b = some o → (s1.heap.push (revObj a ((its.toArray.size : Int) - 1))).get? b = some o := fun b o e => Heap.get?_push_of_some _ e
  have hl := p'.isList
  obtain ⟨ol, hol, _⟩ := id hl
  have hne : a ≠ s1.heap.objs.size := Nat.ne_of_lt (Heap.lt_size hol)
  have hn : its.toArray.size ≤ sizeLine := by rw [List.size_toArray, ← rv.length]; exact hz
  refine RT.km_list_rev (s := { s1 with heap := s1.heap.push (revObj a ((its.toArray.size : Int) - 1)) }) (I1.ok.hd hc) ⟨_, Heap.get?_push_size _ rfl, rfl, rfl⟩ (hl.push _) hne hn fun h' tk acc c' hk hS hi => ?_
  have hz2 : (s1.heap.push (revObj a ((its.toArray.size : Int) - 1))).objs.size = s1.heap.objs.size + 1 := Heap.size_push ..
  have hge : s1.heap.objs.size ≤ (s1.heap.push (revObj a ((its.toArray.size : Int) - 1))).objs.size := by rw [hz2]; exact Nat.le_succ _
  refine ⟨.ref _, upd H1 _ (.lst xs.reverse), ?_, rfl, q _ (I1.hok.fresh hge)⟩
  refine I1.laid (t' := tk) (fun b o e => ?_) hge (show ObjOk X.prog X.w _ _ _ (.lst xs.reverse) from ⟨by rw [List.length_reverse]; exact hz, acc.toList, c', RT.vals_rev rv hi, ?_⟩)
  · exact hk b o (Nat.ne_of_lt (Heap.lt_size e)) (k0 b o e)
  · rw [Array.toArray_toList]
    exact hS
end Km
end

section
set_option Elab.async false
set_option linter.all false
set_option maxRecDepth 100000
set_option maxHeartbeats 4000000
/-! An error that the first of several except clauses surely catches (as e); isinstance of a caught error that has a dict of its own. -/
namespace Km
open PySem PySem.Spec PyProof.Rows L2
/-- what is wished of an error of the body: the first clause catches it -/
def wSure (K : PySem.W.Frag) (c : Value) (i : Nat) (ts : Addr → Value → Option Addr → TS) (D : Ends) : WX := fun cls d σ H => PySem.W.exmOne K cls c = some true ∧ ∀ a, H a = none → ts a cls d { nx := fun σ' H' => D.nx (σ'.set i none) H', rt := D.rt, bk := fun σ' H' => D.bk (σ'.set i none) H', ct := fun σ' H' => D.ct (σ'.set i none) H' } (σ.set i (some (.ref a))) H
section
variable {X : Cx} {x n : Str} {c : Value} {i : Nat} {body suite : List Stmt} {b₀ : Stmt} {hds : List ExceptHandler} {np pos pos' : Pos} {tb : WX → TS} {ts : Addr → Value → Option Addr → TS}
theorem ps_try_sure (hs : X.stack = X.env :: X.outer) (hf : X.env.frame = some X.env.locals) (hN : X.N.Nodup) (hi : X.N[i]? = some n) (hln : X.env.kindOf n = some .local) (hc : Names X x c)
    (hb : ∀ (W : WX) (pn : List (Addr × Obj)) (xe : Value → Shared → Prop), Takes (X.tr pn xe) W → PassesOwn (model X.prog X.w) X.A X.env xe → PSs (X.tr pn xe) body (tb W))
    (hsu : ∀ (a : Addr) (oe : Obj) (cls : Value) (d : Option Addr) (pn : List (Addr × Obj)), Zc cls d oe → (∃ vs, oe.data = .fields vs) → PSs (X.suite a ((a, oe) :: pn)) (b₀ :: suite) (ts a cls d)) :
    PS X (.Try body (.ExceptHandler (some (.Name x np)) (some n) (b₀ :: suite) pos' :: hds) [] [] pos) (fun D σ H => tb (wSure X.K c i ts D) D σ H) := by
  refine ⟨fun pins s σ H D I h => ?_⟩
  have ok := I.ok
  have hfr : X.A.frames = some (X.env :: X.outer) := by rw [ok.frames, hs]
  have hloc : Loc X.env.scope n := .inl hln
  refine wpAny_Try_except ?_
  refine wpAny_mono ((hb (wSure X.K c i ts D) (X.pn ++ pins) (fun e s₁ => wpAny (model X.prog X.w) X.A (noteFrame e X.env) (fun _ s₂ => wpAny (model X.prog X.w) X.A (setFlight e none) (fun _ s₃ =>
    wpAny (model X.prog X.w) X.A (handleBy e X.env (.ExceptHandler (some (.Name x np)) (some n) (b₀ :: suite) pos' :: hds)) (SP X pins D) X.xe s₃) X.xe s₂) X.xe s₁) (fun u s' xx => ?_) PassesOwn.looking).run [] s σ H D (I.toTry _) h) (fun f s1 hsp => ?_) (fun e s1 he => he)
  · obtain ⟨a, B, sI, pins', σ', H', cls, d, rfl, J', nb, up, sky, na, os, ag, hb1, hyes⟩ := xx
    have J : Inv X pins σ' H' sI := J'.ofTry ok
    have sky' : Sky B (X.env :: X.outer) a (Zc cls d) X.env.locals s'.heap := by rw [← hs]; exact sky
    show wpAny (model X.prog X.w) X.A (noteFrame (.ref a) X.env) _ _ _
    refine Sky.land Zc.steady hfr hf sky' fun h3 fl3 up3 => ?_
    have J3 : Inv X pins σ' H' { s' with heap := h3 } := J.landed nb fl3.1 (up.trans up3) os ag
    obtain ⟨oe3, vs3, he3, hz3, hd3⟩ := fl3.there
    have notFr : ∀ {h : Heap} {o : Obj} {vs : Array Value}, h.FunFrames B (X.env :: X.outer) → h.get? a = some o → o.data = .fields vs → a ∉ frs (X.env :: X.outer) := fun {h o vs} ff e dd hm => by
      obtain ⟨_, o', e', hnf⟩ := ff.mem hm
      rw [e] at e'; cases e'
      exact hnf _ dd
    have nfr := notFr fl3.2.2.1 he3 hd3
    have nL : a ≠ X.env.locals := fun z => nfr (List.mem_filterMap.mpr ⟨X.env, List.mem_cons_self, by rw [hf, z]⟩)
    have nF : a ∉ X.fs := fun hm => by
      obtain ⟨e, he, q⟩ := List.mem_filterMap.mp hm
      exact nfr (List.mem_filterMap.mpr ⟨e, List.mem_cons_of_mem _ he, q⟩)
    have S3 := J3.suite he3 hd3 na nL nF
    refine wpAny_handleBy_cons (codeAny_handlers_test ?_) (by intro q; cases q)
    have LT : PySem.W.Looks (model X.prog X.w) h3 (typeOf (.ref a)) cls := fun A Q E s k q => wpAny_typeOf_ref (k _ _ he3) (by rw [hz3.1]; exact q)
    have LM := PySem.W.exm_one (M := model X.prog X.w) (J3.kIn) LT hb1
    have test : ∀ {Q : Value → Shared → Prop} {E : Value → Shared → Prop}, Q c { s' with heap := h3 } → wpAny (model X.prog X.w) (X.A.mark (some (.ref a))) (eval (.Name x np) X.env) Q E { s' with heap := h3 } := fun {Q E} q => by
      obtain ⟨hg, hdbg, hm | ⟨hm, hv, hnn⟩⟩ := hc
      · exact ld_glob (X := X.suite a ((a, oe3) :: (X.pn ++ pins))) S3 hg hm q hdbg
      · exact ld_blt (X := X.suite a ((a, oe3) :: (X.pn ++ pins))) S3 hg hm hv q hnn hdbg
    refine test (LM.here ?_)
    refine codeAny_handlers_suite_as ?_
    refine HandSPX.lands_againZ fl3 fun h4 fl4 up4 => ?_
    have J4 : Inv X pins σ' H' { s' with heap := h4 } := J.landed nb fl4.1 ((up.trans up3).trans up4) os ag
    obtain ⟨oe4, vs4, he4, hz4, hd4⟩ := fl4.there
    have S4 := J4.suite he4 hd4 na nL nF
    refine store_ok (X := X.suite a ((a, oe4) :: (X.pn ++ pins))) (v := .ref a) S4 hN hi hloc rfl (fun s5 S5 => ?_) (.inr hln)
    refine wpAny_mono ((hsu a oe4 cls d (X.pn ++ pins) hz4 ⟨_, hd4⟩).run [] s5 _ H' _ S5 (hyes a na)) (fun f s6 hsp => ?_) (fun _ _ z => False.elim z)
    have end_ : ∀ {σ6 : L2.St} {H6 : Hp} {Q : Shared → Prop}, Inv (X.suite a ((a, oe4) :: (X.pn ++ pins))) [] σ6 H6 s6 → (∀ s7, Inv X pins (σ6.set i none) H6 s7 → Q s7) →
        wpAny (model X.prog X.w) X.A (do bindName X.env n .none; unbindBehindTheSuite X.env n pos') (fun _ s7 => Q s7) X.xe s6 := fun {σ6 H6 Q} S6 hq => gone_ok (S6.unsuite ok) hN hi hln hq
    cases f with
    | next =>
      obtain ⟨σ6, H6, S6, q6⟩ := hsp
      exact end_ S6 fun s7 J7 => ⟨_, _, J7, q6⟩
    | brk =>
      obtain ⟨σ6, H6, S6, q6⟩ := hsp
      exact end_ S6 fun s7 J7 => ⟨_, _, J7, q6⟩
    | cont =>
      obtain ⟨σ6, H6, S6, q6⟩ := hsp
      exact end_ S6 fun s7 J7 => ⟨_, _, J7, q6⟩
    | ret u =>
      obtain ⟨v6, σ6, H6, S6, r6, q6⟩ := hsp
      exact end_ S6 fun s7 J7 => ⟨_, _, _, J7, r6, q6⟩
  · cases f with
    | next =>
      obtain ⟨σ', H', J', q⟩ := hsp
      exact wpAny_execs_nil ⟨σ', H', J'.ofTry ok, q⟩
    | brk =>
      obtain ⟨σ', H', J', q⟩ := hsp
      exact ⟨σ', H', J'.ofTry ok, q⟩
    | cont =>
      obtain ⟨σ', H', J', q⟩ := hsp
      exact ⟨σ', H', J'.ofTry ok, q⟩
    | ret u =>
      obtain ⟨v, σ', H', J', r, q⟩ := hsp
      exact ⟨v, σ', H', J'.ofTry ok, r, q⟩
end
/-- isinstance(e, c), e the caught error at a of the class at D, its dict at dd -/
def rIsX (K : PySem.W.Frag) (D a : Addr) (cls : Value) (d : Option Addr) : List V → Hp → VK → Prop := fun xs H Q => ∃ (c : V) (cv : Value) (b : Bool) (dd : Addr) (fs : List (Str × V)), xs = [.ref a, c] ∧ cls = .ref D ∧ d = some dd ∧ H dd = some (.xd fs) ∧ (∀ u, RelV c u → u = cv) ∧ PySem.W.kitOne K (.ref D) cv = some b ∧ Q (.bl b) H
theorem call_isX {X : Cx} {a D : Addr} {cls : Value} {d : Option Addr} {oe : Obj} {pn : List (Addr × Obj)} (C : ExcC X.K D) (hz : Zc cls d oe) (hf : ∃ vs, oe.data = .fields vs) : CallR (X.suite a ((a, oe) :: pn)) (.builtin "isinstance") (rIsX X.K D a cls d) := by
  intro pins s σ H xs us Q I r h
  obtain ⟨c, cv, b, dd, fs, rfl, rfl, rfl, hdd, hcv, e, q⟩ := h
  cases r with
  | cons rx rr =>
    cases rr with
    | cons rt rr =>
      cases rr
      cases rx
      have ec := hcv _ rt
      subst ec
      obtain ⟨hget, _⟩ := I.pin (a, oe) (List.mem_append.mpr (.inl List.mem_cons_self))
      obtain ⟨vs, hv⟩ := hf
      have hx : ObjOk X.prog X.w H s.heap dd (.xd fs) := I.hok dd _ hdd
      obtain ⟨mA, hns, hr⟩ := hx
      obtain ⟨od, ho, hl⟩ := lookIn_ns hns
      have J : PySem.W.InstAt s.heap a oe D (some od) := ⟨hget, hz.1, by unfold PySem.W.notCls; rw [hv] <;> rfl, by rw [hz.2]; exact ho⟩
      obtain ⟨cdD, hcD, _⟩ := PySem.W.any_some C.hd
      exact PySem.W.kia_one (PySem.W.kitx_exc (by rw [hcD]; rfl) C.hg C.hk C.hs C.ha C.hn C.ht C.hm) I.kIn J e (fun z => nomatch z) fun tk => ⟨.bl b, H, I.kept (t' := tk) fun _ _ z => z, rfl, q⟩
end Km
end

section
set_option Elab.async false
set_option linter.all false
set_option maxRecDepth 100000
set_option maxHeartbeats 0
/-! The head: the run of the top and the facts that it leaves (printed by gen_hd.py). -/
namespace Km
open PySem PySem.Spec PyProof.Rows L2
def d_UnknownText_init : He.DefD := ⟨("UnknownText", some "__init__"), "__init__", "UnknownText.__init__", defArgs s_UnknownText_init, defBody s_UnknownText_init, defScope s_UnknownText_init, [], []⟩
def d_Changes_init : He.DefD := ⟨("Changes", some "__init__"), "__init__", "Changes.__init__", defArgs s_Changes_init, defBody s_Changes_init, defScope s_Changes_init, [], []⟩
def d_Changes_texts : He.DefD := ⟨("Changes", some "texts"), "texts", "Changes.texts", defArgs s_Changes_texts, defBody s_Changes_texts, defScope s_Changes_texts, [], []⟩
def d_Changes_of : He.DefD := ⟨("Changes", some "of"), "of", "Changes.of", defArgs s_Changes_of, defBody s_Changes_of, defScope s_Changes_of, [], []⟩
def d_known : He.DefD := ⟨("known", none), "known", "known", defArgs s_known, defBody s_known, defScope s_known, [], []⟩
def d_greatest_divisor : He.DefD := ⟨("greatest_divisor", none), "greatest_divisor", "greatest_divisor", defArgs s_greatest_divisor, defBody s_greatest_divisor, defScope s_greatest_divisor, [], []⟩
def d_least_multiple : He.DefD := ⟨("least_multiple", none), "least_multiple", "least_multiple", defArgs s_least_multiple, defBody s_least_multiple, defScope s_least_multiple, [], []⟩
def d_power : He.DefD := ⟨("power", none), "power", "power", defArgs s_power, defBody s_power, defScope s_power, [], []⟩
def d_Share_init : He.DefD := ⟨("Share", some "__init__"), "__init__", "Share.__init__", defArgs s_Share_init, defBody s_Share_init, defScope s_Share_init, [], []⟩
def d_Share_add : He.DefD := ⟨("Share", some "__add__"), "__add__", "Share.__add__", defArgs s_Share_add, defBody s_Share_add, defScope s_Share_add, [], []⟩
def d_is_integer : He.DefD := ⟨("_is_integer", none), "_is_integer", "_is_integer", defArgs s_is_integer, defBody s_is_integer, defScope s_is_integer, [], []⟩
def d_Table_init : He.DefD := ⟨("Table", some "__init__"), "__init__", "Table.__init__", defArgs s_Table_init, defBody s_Table_init, defScope s_Table_init, [], []⟩
def d_Table_texts : He.DefD := ⟨("Table", some "texts"), "texts", "Table.texts", defArgs s_Table_texts, defBody s_Table_texts, defScope s_Table_texts, [], []⟩
def d_Table_weight_of : He.DefD := ⟨("Table", some "weight_of"), "weight_of", "Table.weight_of", defArgs s_Table_weight_of, defBody s_Table_weight_of, defScope s_Table_weight_of, [], []⟩
def d_Machine_init : He.DefD := ⟨("Machine", some "__init__"), "__init__", "Machine.__init__", defArgs s_Machine_init, defBody s_Machine_init, defScope s_Machine_init, [], []⟩
def d_Machine_all_weights : He.DefD := ⟨("Machine", some "all_weights"), "all_weights", "Machine.all_weights", defArgs s_Machine_all_weights, defBody s_Machine_all_weights, defScope s_Machine_all_weights, [], []⟩
def d_Machine_texts : He.DefD := ⟨("Machine", some "texts"), "texts", "Machine.texts", defArgs s_Machine_texts, defBody s_Machine_texts, defScope s_Machine_texts, [], []⟩
def d_Machine_weight_of : He.DefD := ⟨("Machine", some "weight_of"), "weight_of", "Machine.weight_of", defArgs s_Machine_weight_of, defBody s_Machine_weight_of, defScope s_Machine_weight_of, [], []⟩
def d_Marking_init : He.DefD := ⟨("Marking", some "__init__"), "__init__", "Marking.__init__", defArgs s_Marking_init, defBody s_Marking_init, defScope s_Marking_init, [], []⟩
def d_Marking_texts : He.DefD := ⟨("Marking", some "texts"), "texts", "Marking.texts", defArgs s_Marking_texts, defBody s_Marking_texts, defScope s_Marking_texts, [], []⟩
def d_accused_by : He.DefD := ⟨("accused_by", none), "accused_by", "accused_by", defArgs s_accused_by, defBody s_accused_by, defScope s_accused_by, [], []⟩
def d_Flow_init : He.DefD := ⟨("Flow", some "__init__"), "__init__", "Flow.__init__", defArgs s_Flow_init, defBody s_Flow_init, defScope s_Flow_init, [], []⟩
def d_Flow_search : He.DefD := ⟨("Flow", some "search"), "search", "Flow.search", defArgs s_Flow_search, defBody s_Flow_search, defScope s_Flow_search, [], []⟩
def d_Flow_way_to : He.DefD := ⟨("Flow", some "way_to"), "way_to", "Flow.way_to", defArgs s_Flow_way_to, defBody s_Flow_way_to, defScope s_Flow_way_to, [], []⟩
def d_Flow_fill : He.DefD := ⟨("Flow", some "fill"), "fill", "Flow.fill", defArgs s_Flow_fill, defBody s_Flow_fill, defScope s_Flow_fill, [], []⟩
def d_Flow_pour : He.DefD := ⟨("Flow", some "pour"), "pour", "Flow.pour", defArgs s_Flow_pour, defBody s_Flow_pour, defScope s_Flow_pour, [], []⟩
def d_best_writer : He.DefD := ⟨("best_writer", none), "best_writer", "best_writer", defArgs s_best_writer, defBody s_best_writer, defScope s_best_writer, [], []⟩
def d_lot_bound : He.DefD := ⟨("lot_bound", none), "lot_bound", "lot_bound", defArgs s_lot_bound, defBody s_lot_bound, defScope s_lot_bound, [], []⟩
def d_check_written : He.DefD := ⟨("_check_written", none), "_check_written", "_check_written", defArgs s_check_written, defBody s_check_written, defScope s_check_written, [], []⟩
def d_found_share : He.DefD := ⟨("found_share", none), "found_share", "found_share", defArgs s_found_share, defBody s_found_share, defScope s_found_share, [], []⟩
def d_law_stream : He.DefD := ⟨("_law_stream", none), "_law_stream", "_law_stream", defArgs s_law_stream, defBody s_law_stream, defScope s_law_stream, [], []⟩
def d_law_draw : He.DefD := ⟨("_law_draw", none), "_law_draw", "_law_draw", defArgs s_law_draw, defBody s_law_draw, defScope s_law_draw, [], []⟩
def d_law_large : He.DefD := ⟨("_law_large", none), "_law_large", "_law_large", defArgs s_law_large, defBody s_law_large, defScope s_law_large, [], []⟩
def d_law_lowest : He.DefD := ⟨("_law_lowest", none), "_law_lowest", "_law_lowest", defArgs s_law_lowest, defBody s_law_lowest, defScope s_law_lowest, [], []⟩
def d_law_is_whole : He.DefD := ⟨("_law_is_whole", none), "_law_is_whole", "_law_is_whole", defArgs s_law_is_whole, defBody s_law_is_whole, defScope s_law_is_whole, [], []⟩
def d_law_is_share : He.DefD := ⟨("_law_is_share", none), "_law_is_share", "_law_is_share", defArgs s_law_is_share, defBody s_law_is_share, defScope s_law_is_share, [], []⟩
def d_law_text : He.DefD := ⟨("_law_text", none), "_law_text", "_law_text", defArgs s_law_text, defBody s_law_text, defScope s_law_text, [], []⟩
def d_law_pool : He.DefD := ⟨("_law_pool", none), "_law_pool", "_law_pool", defArgs s_law_pool, defBody s_law_pool, defScope s_law_pool, [], []⟩
def d_law_part : He.DefD := ⟨("_law_part", none), "_law_part", "_law_part", defArgs s_law_part, defBody s_law_part, defScope s_law_part, [], []⟩
def d_law_top : He.DefD := ⟨("_law_top", none), "_law_top", "_law_top", defArgs s_law_top, defBody s_law_top, defScope s_law_top, [], []⟩
def d_law_source : He.DefD := ⟨("_law_source", none), "_law_source", "_law_source", defArgs s_law_source, defBody s_law_source, defScope s_law_source, [], []⟩
def d_law_readable : He.DefD := ⟨("_law_readable", none), "_law_readable", "_law_readable", defArgs s_law_readable, defBody s_law_readable, defScope s_law_readable, [], []⟩
def d_law_finder : He.DefD := ⟨("_law_finder", none), "_law_finder", "_law_finder", defArgs s_law_finder, defBody s_law_finder, defScope s_law_finder, [], []⟩
def d_law_copy : He.DefD := ⟨("_law_copy", none), "_law_copy", "_law_copy", defArgs s_law_copy, defBody s_law_copy, defScope s_law_copy, [], []⟩
def d_law_reaches : He.DefD := ⟨("_law_reaches", none), "_law_reaches", "_law_reaches", defArgs s_law_reaches, defBody s_law_reaches, defScope s_law_reaches, [], []⟩
def d_law_bound : He.DefD := ⟨("_law_bound", none), "_law_bound", "_law_bound", defArgs s_law_bound, defBody s_law_bound, defScope s_law_bound, [], []⟩
def d_law_entries : He.DefD := ⟨("_law_entries", none), "_law_entries", "_law_entries", defArgs s_law_entries, defBody s_law_entries, defScope s_law_entries, [], []⟩
def d_law_places_fit : He.DefD := ⟨("_law_places_fit", none), "_law_places_fit", "_law_places_fit", defArgs s_law_places_fit, defBody s_law_places_fit, defScope s_law_places_fit, [], []⟩
def d_law_unseen : He.DefD := ⟨("_law_unseen", none), "_law_unseen", "_law_unseen", defArgs s_law_unseen, defBody s_law_unseen, defScope s_law_unseen, [], []⟩
def d_law_lot_fits : He.DefD := ⟨("_law_lot_fits", none), "_law_lot_fits", "_law_lot_fits", defArgs s_law_lot_fits, defBody s_law_lot_fits, defScope s_law_lot_fits, [], []⟩
def d_law_refused : He.DefD := ⟨("_law_refused", none), "_law_refused", "_law_refused", defArgs s_law_refused, defBody s_law_refused, defScope s_law_refused, [], []⟩
def d_law_refusals_fit : He.DefD := ⟨("_law_refusals_fit", none), "_law_refusals_fit", "_law_refusals_fit", defArgs s_law_refusals_fit, defBody s_law_refusals_fit, defScope s_law_refusals_fit, [], []⟩
def d_law_lots_fit : He.DefD := ⟨("_law_lots_fit", none), "_law_lots_fit", "_law_lots_fit", defArgs s_law_lots_fit, defBody s_law_lots_fit, defScope s_law_lots_fit, [], []⟩
def d_law_whole : He.DefD := ⟨("_law_whole", none), "_law_whole", "_law_whole", defArgs s_law_whole, defBody s_law_whole, defScope s_law_whole, [], []⟩
def d_law : He.DefD := ⟨("law", none), "law", "law", defArgs s_law, defBody s_law, defScope s_law, [], []⟩
def hfn0 : List He.DefD := [d_UnknownText_init, d_Changes_init, d_Changes_texts, d_Changes_of, d_known, d_greatest_divisor, d_least_multiple, d_power, d_Share_init, d_Share_add, d_is_integer, d_Table_init, d_Table_texts, d_Table_weight_of, d_Machine_init, d_Machine_all_weights, d_Machine_texts, d_Machine_weight_of, d_Marking_init, d_Marking_texts, d_accused_by, d_Flow_init, d_Flow_search, d_Flow_way_to, d_Flow_fill, d_Flow_pour, d_best_writer, d_lot_bound, d_check_written, d_found_share]
def hfn1 : List He.DefD := [d_law_stream, d_law_draw, d_law_large, d_law_lowest, d_law_is_whole, d_law_is_share, d_law_text, d_law_pool, d_law_part, d_law_top, d_law_source, d_law_readable, d_law_finder, d_law_copy, d_law_reaches, d_law_bound, d_law_entries, d_law_places_fit, d_law_unseen, d_law_lot_fits, d_law_refused, d_law_refusals_fit, d_law_lots_fit, d_law_whole, d_law]
def hfn : List He.DefD := hfn0 ++ hfn1
def hfa0 : List He.Fa := [.glo "known", .glo "greatest_divisor", .glo "least_multiple", .glo "power", .glo "_is_integer", .glo "accused_by", .glo "best_writer", .glo "lot_bound", .glo "_check_written", .glo "found_share", .glo "_law_stream", .glo "_law_draw", .glo "_law_large", .glo "_law_lowest", .glo "_law_is_whole", .glo "_law_is_share", .glo "_law_text", .glo "_law_pool", .glo "_law_part", .glo "_law_top", .glo "_law_source", .glo "_law_readable", .glo "_law_finder", .glo "_law_copy", .glo "_law_reaches", .glo "_law_bound", .glo "_law_entries", .glo "_law_places_fit", .glo "_law_unseen", .glo "_law_lot_fits"]
def hfa1 : List He.Fa := [.glo "_law_refused", .glo "_law_refusals_fit", .glo "_law_lots_fit", .glo "_law_whole", .glo "law", .glo "Changes", .glo "Share", .glo "Table", .glo "Machine", .glo "Marking", .glo "Flow", .glo "UnknownText", .glo "MarkError", .glo "Seen", .free "len", .free "range", .free "sorted", .free "set", .free "list", .free "tuple", .free "enumerate", .free "zip", .free "sum", .free "min", .free "abs", .free "int", .free "isinstance", .free "any", .free "all", .free "reversed"]
def hfa2 : List He.Fa := [.free "bool", .cls "Changes", .mkr "Changes", .noat "Changes" "kept", .meth "Changes" "texts", .meth "Changes" "of", .cls "Share", .mkr "Share", .noat "Share" "over", .noat "Share" "under", .meth "Share" "__add__", .cls "Table", .mkr "Table", .noat "Table" "weights", .noat "Table" "whole", .meth "Table" "texts", .meth "Table" "weight_of", .cls "Machine", .mkr "Machine", .noat "Machine" "alphabet", .noat "Machine" "start", .noat "Machine" "rows", .noat "Machine" "length", .noat "Machine" "unit", .noat "Machine" "whole", .noat "Machine" "weights", .meth "Machine" "all_weights", .meth "Machine" "texts", .meth "Machine" "weight_of", .cls "Marking"]
def hfa3 : List He.Fa := [.mkr "Marking", .noat "Marking" "entries", .noat "Marking" "whole", .meth "Marking" "texts", .cls "Flow", .mkr "Flow", .noat "Flow" "fits", .noat "Flow" "supply", .noat "Flow" "room", .noat "Flow" "sent", .noat "Flow" "reached", .noat "Flow" "filled", .meth "Flow" "search", .meth "Flow" "way_to", .meth "Flow" "fill", .meth "Flow" "pour", .exm "UnknownText" "UnknownText" true, .noat "UnknownText" "text"]
def hfa : List He.Fa := hfa0 ++ hfa1 ++ hfa2 ++ hfa3
def hloose0 : List PySem.Str := ["_wall", "__name__", "MarkError", "InvalidNumber", "InvalidPair", "InvalidKey", "UnknownText", "Seen", "Changes", "known", "greatest_divisor", "least_multiple", "power", "Share", "_is_integer", "Table", "Machine", "_is_below", "Marking", "accused_by", "Flow", "best_writer", "lot_bound", "_check_written", "found_share", "_law_stream", "_law_draw", "_law_large", "_law_lowest", "_law_is_whole"]
def hloose1 : List PySem.Str := ["_law_is_share", "_law_text", "_law_pool", "_law_part", "_law_top", "_law_source", "_law_readable", "_law_finder", "_law_copy", "_law_reaches", "_law_bound", "_law_entries", "_law_places_fit", "_law_unseen", "_law_lot_fits", "_law_refused", "_law_refusals_fit", "_law_lots_fit", "_law_whole"]
def hloose : List PySem.Str := hloose0 ++ hloose1
/-- an exception class of the program's own, over a chain of classes down to ValueError -/
def oexB (K : PySem.W.Frag) (C : Addr) : Bool := match K.lookup C with
  | some ⟨.type "type", _, .cls cd, sl⟩ => (match cd.mro, sl.toList with
    | .ref C1 :: bm, [_, _, _, _, some (.builtin n), _] => C1 == C && (n == "ValueError.__new__" && (!cd.hasDel && (PySem.HandSPX.refsVE bm && cd.hasDict)))
    | _, _ => false)
  | _ => false
def o1 (a b : Option (Option Value)) : Bool := decide (a = b)
def clsB (K : PySem.W.Frag) (C : Addr) : Bool := o1 (PySem.W.findIn K (.ref C) "__class__") (some (some (.builtin "object.__class__"))) && decide (PySem.W.mroIn K C (.type "object") = some true)
def exB (K : PySem.W.Frag) : Bool :=
  PySem.W.selfFirst K (He.ga K "Share") && (oexB K (He.ga K "UnknownText") && (o1 (PySem.W.findIn K (.ref (He.ga K "UnknownText")) "__setattr__") (some (some (.builtin "object.__setattr__"))) &&
  (PySem.W.keepIn K (.ref (He.ga K "UnknownText")) && (decide (PySem.W.typeIn K (.ref (He.ga K "UnknownText")) = some (.type "type")) &&
  (o1 (PySem.W.findIn K (.ref (He.ga K "UnknownText")) "__init__") (some (some (.ref (He.ma K (He.ga K "UnknownText") "__init__")))) && (decide (PySem.W.typeIn K (.ref (He.ma K (He.ga K "UnknownText") "__init__")) = some (.type "function")) &&
  (xfB K (He.ga K "UnknownText") && (clsB K (He.ga K "UnknownText") && (clsB K (He.ga K "Share") && (clsB K (He.ga K "Marking") &&
  (o1 (PySem.W.specialIn K (.builtin "object.__class__") "__get__") (some (some (.builtin "getset_descriptor.__get__"))) && (decide (PySem.W.takesIn K (.builtin "object.__class__") = some true) &&
  (decide (PySem.W.kitOne K (.ref (He.ga K "UnknownText")) (.ref (He.ga K "MarkError")) = some true) && decide (PySem.W.kitOne K (.ref (He.ga K "UnknownText")) (.ref (He.ga K "Seen")) = some false))))))))))))))
end Km
end

section
set_option Elab.async false
set_option linter.all false
set_option maxRecDepth 100000
set_option maxHeartbeats 0
/-! The head: the run of the top and the facts that it leaves (printed by gen_hd.py). -/
namespace Km
open PySem PySem.Spec PyProof.Rows L2
abbrev RR : PySem.W.OpenRow := PySem.W.OpenLaw.row PySem.Challenge.rw_marktruly_k52_whole_best_writer
abbrev qv : PySem.Program := PySem.W.view RR.prog [57]
abbrev hkX : PySem.W.Hook := He.hookX 4 hfa hfn [] [] exB
def obX (s : PySem.W.SharedT) : He.AlX := He.obsX 4 hfa hfn [] [] exB (HandSHeadRun.getT s)
theorem obX_eq (s : PySem.W.SharedT) : obX s = hkX.obs s.abs := He.obsX_eq (HandSHeadRun.getT_eq s)
/-- the run in two checks, each of less memory than the whole -/
theorem run_join {A B C D : Type _} {o : Option A} {f : A → B} {g : A → C} {h : A → D} {b : B} {c : C} {d : D} (e : o.map (fun s => (f s, g s)) = some (b, c)) (e' : o.map h = some d) : o.map (fun s => (f s, g s, h s)) = some (b, c, d) := by
  cases o with
  | none => cases e
  | some s =>
    have e1 : (f s, g s) = (b, c) := Option.some.inj e
    have e2 : h s = d := Option.some.inj e'
    show some (f s, g s, h s) = _
    rw [e2, (Prod.mk.inj e1).1, (Prod.mk.inj e1).2]
section
open PySem.W PySem.Calls HandSHeadRun
theorem run_looks (w : World) (os : OsState) : (endF (stepQ (denQ tabQ) RR.prog w) 6000 RR.prog w os).map (fun s => (looksF RR.prog (boot_heap w.params) s.abs, seenQ qv hloose (importedModules RR.prog.main.body) (fun s => xlAt qv [] s && recOk RR.toRowW.records s) s.abs)) = some (true, openGood qv hloose) := by
  kernel_rfl
theorem run_sees (w : World) (os : OsState) : (endF (stepQ (denQ tabQ) RR.prog w) 6000 RR.prog w os).map obX = some (hkX.val w) := by
  kernel_rfl
end
theorem run (w : World) : HandSHeadRun.RunEq RR qv hkX obX 6000 hloose w := by
  intro os
  exact run_join (run_looks w os) (run_sees w os)
end Km
end

section
set_option Elab.async false
set_option linter.all false
set_option maxRecDepth 100000
set_option maxHeartbeats 4000000
/-! What stands behind the top, by names (printed by gen_hd.py). -/
namespace Km
open PySem PySem.Spec PyProof.Rows L2
structure Fx (K : PySem.W.Frag) (mg : Str → Option Value) : Prop where
  fa : ∀ f ∈ hfa, f.ok K = true
  fn : ∀ d ∈ hfn, ∃ fd, FunD K d.name d.qual d.params d.body d.scope (d.dvs K) (d.kws K) (He.fAd K d.at_) fd
  glo : ∀ x : Str, (He.Fa.glo x).ok K = true → mg x = some (.ref (He.ga K x))
  free : ∀ x : Str, (He.Fa.free x).ok K = true → mg x = none
  ex : exB K = true
section
variable {K : PySem.W.Frag} {mg : Str → Option Value}
theorem Fx.at (x : Fx K mg) (i : Nat) {f : He.Fa} (h : hfa[i]? = some f) : f.ok K = true := x.fa f (List.mem_of_getElem? h)
theorem Fx.df (x : Fx K mg) (i : Nat) {d : He.DefD} (h : hfn[i]? = some d) : ∃ fd, FunD K d.name d.qual d.params d.body d.scope (d.dvs K) (d.kws K) (He.fAd K d.at_) fd := x.fn d (List.mem_of_getElem? h)
theorem Fx.g_known (x : Fx K mg) : mg "known" = some (.ref (He.ga K "known")) := x.glo _ (x.at 0 rfl)
theorem Fx.g_greatest_divisor (x : Fx K mg) : mg "greatest_divisor" = some (.ref (He.ga K "greatest_divisor")) := x.glo _ (x.at 1 rfl)
theorem Fx.g_least_multiple (x : Fx K mg) : mg "least_multiple" = some (.ref (He.ga K "least_multiple")) := x.glo _ (x.at 2 rfl)
theorem Fx.g_power (x : Fx K mg) : mg "power" = some (.ref (He.ga K "power")) := x.glo _ (x.at 3 rfl)
theorem Fx.g_is_integer (x : Fx K mg) : mg "_is_integer" = some (.ref (He.ga K "_is_integer")) := x.glo _ (x.at 4 rfl)
theorem Fx.g_accused_by (x : Fx K mg) : mg "accused_by" = some (.ref (He.ga K "accused_by")) := x.glo _ (x.at 5 rfl)
theorem Fx.g_best_writer (x : Fx K mg) : mg "best_writer" = some (.ref (He.ga K "best_writer")) := x.glo _ (x.at 6 rfl)
theorem Fx.g_lot_bound (x : Fx K mg) : mg "lot_bound" = some (.ref (He.ga K "lot_bound")) := x.glo _ (x.at 7 rfl)
theorem Fx.g_check_written (x : Fx K mg) : mg "_check_written" = some (.ref (He.ga K "_check_written")) := x.glo _ (x.at 8 rfl)
theorem Fx.g_found_share (x : Fx K mg) : mg "found_share" = some (.ref (He.ga K "found_share")) := x.glo _ (x.at 9 rfl)
theorem Fx.g_law_stream (x : Fx K mg) : mg "_law_stream" = some (.ref (He.ga K "_law_stream")) := x.glo _ (x.at 10 rfl)
theorem Fx.g_law_draw (x : Fx K mg) : mg "_law_draw" = some (.ref (He.ga K "_law_draw")) := x.glo _ (x.at 11 rfl)
theorem Fx.g_law_large (x : Fx K mg) : mg "_law_large" = some (.ref (He.ga K "_law_large")) := x.glo _ (x.at 12 rfl)
theorem Fx.g_law_lowest (x : Fx K mg) : mg "_law_lowest" = some (.ref (He.ga K "_law_lowest")) := x.glo _ (x.at 13 rfl)
theorem Fx.g_law_is_whole (x : Fx K mg) : mg "_law_is_whole" = some (.ref (He.ga K "_law_is_whole")) := x.glo _ (x.at 14 rfl)
theorem Fx.g_law_is_share (x : Fx K mg) : mg "_law_is_share" = some (.ref (He.ga K "_law_is_share")) := x.glo _ (x.at 15 rfl)
theorem Fx.g_law_text (x : Fx K mg) : mg "_law_text" = some (.ref (He.ga K "_law_text")) := x.glo _ (x.at 16 rfl)
theorem Fx.g_law_pool (x : Fx K mg) : mg "_law_pool" = some (.ref (He.ga K "_law_pool")) := x.glo _ (x.at 17 rfl)
theorem Fx.g_law_part (x : Fx K mg) : mg "_law_part" = some (.ref (He.ga K "_law_part")) := x.glo _ (x.at 18 rfl)
theorem Fx.g_law_top (x : Fx K mg) : mg "_law_top" = some (.ref (He.ga K "_law_top")) := x.glo _ (x.at 19 rfl)
theorem Fx.g_law_source (x : Fx K mg) : mg "_law_source" = some (.ref (He.ga K "_law_source")) := x.glo _ (x.at 20 rfl)
theorem Fx.g_law_readable (x : Fx K mg) : mg "_law_readable" = some (.ref (He.ga K "_law_readable")) := x.glo _ (x.at 21 rfl)
theorem Fx.g_law_finder (x : Fx K mg) : mg "_law_finder" = some (.ref (He.ga K "_law_finder")) := x.glo _ (x.at 22 rfl)
theorem Fx.g_law_copy (x : Fx K mg) : mg "_law_copy" = some (.ref (He.ga K "_law_copy")) := x.glo _ (x.at 23 rfl)
theorem Fx.g_law_reaches (x : Fx K mg) : mg "_law_reaches" = some (.ref (He.ga K "_law_reaches")) := x.glo _ (x.at 24 rfl)
theorem Fx.g_law_bound (x : Fx K mg) : mg "_law_bound" = some (.ref (He.ga K "_law_bound")) := x.glo _ (x.at 25 rfl)
theorem Fx.g_law_entries (x : Fx K mg) : mg "_law_entries" = some (.ref (He.ga K "_law_entries")) := x.glo _ (x.at 26 rfl)
theorem Fx.g_law_places_fit (x : Fx K mg) : mg "_law_places_fit" = some (.ref (He.ga K "_law_places_fit")) := x.glo _ (x.at 27 rfl)
theorem Fx.g_law_unseen (x : Fx K mg) : mg "_law_unseen" = some (.ref (He.ga K "_law_unseen")) := x.glo _ (x.at 28 rfl)
theorem Fx.g_law_lot_fits (x : Fx K mg) : mg "_law_lot_fits" = some (.ref (He.ga K "_law_lot_fits")) := x.glo _ (x.at 29 rfl)
theorem Fx.g_law_refused (x : Fx K mg) : mg "_law_refused" = some (.ref (He.ga K "_law_refused")) := x.glo _ (x.at 30 rfl)
theorem Fx.g_law_refusals_fit (x : Fx K mg) : mg "_law_refusals_fit" = some (.ref (He.ga K "_law_refusals_fit")) := x.glo _ (x.at 31 rfl)
theorem Fx.g_law_lots_fit (x : Fx K mg) : mg "_law_lots_fit" = some (.ref (He.ga K "_law_lots_fit")) := x.glo _ (x.at 32 rfl)
theorem Fx.g_law_whole (x : Fx K mg) : mg "_law_whole" = some (.ref (He.ga K "_law_whole")) := x.glo _ (x.at 33 rfl)
theorem Fx.g_law (x : Fx K mg) : mg "law" = some (.ref (He.ga K "law")) := x.glo _ (x.at 34 rfl)
theorem Fx.g_Changes (x : Fx K mg) : mg "Changes" = some (.ref (He.ga K "Changes")) := x.glo _ (x.at 35 rfl)
theorem Fx.g_Share (x : Fx K mg) : mg "Share" = some (.ref (He.ga K "Share")) := x.glo _ (x.at 36 rfl)
theorem Fx.g_Table (x : Fx K mg) : mg "Table" = some (.ref (He.ga K "Table")) := x.glo _ (x.at 37 rfl)
theorem Fx.g_Machine (x : Fx K mg) : mg "Machine" = some (.ref (He.ga K "Machine")) := x.glo _ (x.at 38 rfl)
theorem Fx.g_Marking (x : Fx K mg) : mg "Marking" = some (.ref (He.ga K "Marking")) := x.glo _ (x.at 39 rfl)
theorem Fx.g_Flow (x : Fx K mg) : mg "Flow" = some (.ref (He.ga K "Flow")) := x.glo _ (x.at 40 rfl)
theorem Fx.g_UnknownText (x : Fx K mg) : mg "UnknownText" = some (.ref (He.ga K "UnknownText")) := x.glo _ (x.at 41 rfl)
theorem Fx.g_MarkError (x : Fx K mg) : mg "MarkError" = some (.ref (He.ga K "MarkError")) := x.glo _ (x.at 42 rfl)
theorem Fx.g_Seen (x : Fx K mg) : mg "Seen" = some (.ref (He.ga K "Seen")) := x.glo _ (x.at 43 rfl)
theorem Fx.f_len (x : Fx K mg) : mg "len" = none := x.free _ (x.at 44 rfl)
theorem Fx.f_range (x : Fx K mg) : mg "range" = none := x.free _ (x.at 45 rfl)
theorem Fx.f_sorted (x : Fx K mg) : mg "sorted" = none := x.free _ (x.at 46 rfl)
theorem Fx.f_set (x : Fx K mg) : mg "set" = none := x.free _ (x.at 47 rfl)
theorem Fx.f_list (x : Fx K mg) : mg "list" = none := x.free _ (x.at 48 rfl)
theorem Fx.f_tuple (x : Fx K mg) : mg "tuple" = none := x.free _ (x.at 49 rfl)
theorem Fx.f_enumerate (x : Fx K mg) : mg "enumerate" = none := x.free _ (x.at 50 rfl)
theorem Fx.f_zip (x : Fx K mg) : mg "zip" = none := x.free _ (x.at 51 rfl)
theorem Fx.f_sum (x : Fx K mg) : mg "sum" = none := x.free _ (x.at 52 rfl)
theorem Fx.f_min (x : Fx K mg) : mg "min" = none := x.free _ (x.at 53 rfl)
theorem Fx.f_abs (x : Fx K mg) : mg "abs" = none := x.free _ (x.at 54 rfl)
theorem Fx.f_int (x : Fx K mg) : mg "int" = none := x.free _ (x.at 55 rfl)
theorem Fx.f_isinstance (x : Fx K mg) : mg "isinstance" = none := x.free _ (x.at 56 rfl)
theorem Fx.f_any (x : Fx K mg) : mg "any" = none := x.free _ (x.at 57 rfl)
theorem Fx.f_all (x : Fx K mg) : mg "all" = none := x.free _ (x.at 58 rfl)
theorem Fx.f_reversed (x : Fx K mg) : mg "reversed" = none := x.free _ (x.at 59 rfl)
theorem Fx.f_bool (x : Fx K mg) : mg "bool" = none := x.free _ (x.at 60 rfl)
theorem Fx.c_Changes (x : Fx K mg) : Cls K (He.ga K "Changes") := He.cls_ok (x.at 61 rfl)
theorem Fx.k_Changes (x : Fx K mg) : Mk K (He.ga K "Changes") (He.ma K (He.ga K "Changes") "__init__") := He.mkr_ok (x.at 62 rfl)
theorem Fx.n_Changes_kept (x : Fx K mg) : NoAttr K (He.ga K "Changes") "kept" := He.noat_ok (x.at 63 rfl)
theorem Fx.m_Changes_texts (x : Fx K mg) : Meth K (He.ga K "Changes") "texts" (He.ma K (He.ga K "Changes") "texts") := He.meth_ok (x.at 64 rfl)
theorem Fx.m_Changes_of (x : Fx K mg) : Meth K (He.ga K "Changes") "of" (He.ma K (He.ga K "Changes") "of") := He.meth_ok (x.at 65 rfl)
theorem Fx.c_Share (x : Fx K mg) : Cls K (He.ga K "Share") := He.cls_ok (x.at 66 rfl)
theorem Fx.k_Share (x : Fx K mg) : Mk K (He.ga K "Share") (He.ma K (He.ga K "Share") "__init__") := He.mkr_ok (x.at 67 rfl)
theorem Fx.n_Share_over (x : Fx K mg) : NoAttr K (He.ga K "Share") "over" := He.noat_ok (x.at 68 rfl)
theorem Fx.n_Share_under (x : Fx K mg) : NoAttr K (He.ga K "Share") "under" := He.noat_ok (x.at 69 rfl)
theorem Fx.m_Share_add (x : Fx K mg) : Meth K (He.ga K "Share") "__add__" (He.ma K (He.ga K "Share") "__add__") := He.meth_ok (x.at 70 rfl)
theorem Fx.c_Table (x : Fx K mg) : Cls K (He.ga K "Table") := He.cls_ok (x.at 71 rfl)
theorem Fx.k_Table (x : Fx K mg) : Mk K (He.ga K "Table") (He.ma K (He.ga K "Table") "__init__") := He.mkr_ok (x.at 72 rfl)
theorem Fx.n_Table_weights (x : Fx K mg) : NoAttr K (He.ga K "Table") "weights" := He.noat_ok (x.at 73 rfl)
theorem Fx.n_Table_whole (x : Fx K mg) : NoAttr K (He.ga K "Table") "whole" := He.noat_ok (x.at 74 rfl)
theorem Fx.m_Table_texts (x : Fx K mg) : Meth K (He.ga K "Table") "texts" (He.ma K (He.ga K "Table") "texts") := He.meth_ok (x.at 75 rfl)
theorem Fx.m_Table_weight_of (x : Fx K mg) : Meth K (He.ga K "Table") "weight_of" (He.ma K (He.ga K "Table") "weight_of") := He.meth_ok (x.at 76 rfl)
theorem Fx.c_Machine (x : Fx K mg) : Cls K (He.ga K "Machine") := He.cls_ok (x.at 77 rfl)
theorem Fx.k_Machine (x : Fx K mg) : Mk K (He.ga K "Machine") (He.ma K (He.ga K "Machine") "__init__") := He.mkr_ok (x.at 78 rfl)
theorem Fx.n_Machine_alphabet (x : Fx K mg) : NoAttr K (He.ga K "Machine") "alphabet" := He.noat_ok (x.at 79 rfl)
theorem Fx.n_Machine_start (x : Fx K mg) : NoAttr K (He.ga K "Machine") "start" := He.noat_ok (x.at 80 rfl)
theorem Fx.n_Machine_rows (x : Fx K mg) : NoAttr K (He.ga K "Machine") "rows" := He.noat_ok (x.at 81 rfl)
theorem Fx.n_Machine_length (x : Fx K mg) : NoAttr K (He.ga K "Machine") "length" := He.noat_ok (x.at 82 rfl)
theorem Fx.n_Machine_unit (x : Fx K mg) : NoAttr K (He.ga K "Machine") "unit" := He.noat_ok (x.at 83 rfl)
theorem Fx.n_Machine_whole (x : Fx K mg) : NoAttr K (He.ga K "Machine") "whole" := He.noat_ok (x.at 84 rfl)
theorem Fx.n_Machine_weights (x : Fx K mg) : NoAttr K (He.ga K "Machine") "weights" := He.noat_ok (x.at 85 rfl)
theorem Fx.m_Machine_all_weights (x : Fx K mg) : Meth K (He.ga K "Machine") "all_weights" (He.ma K (He.ga K "Machine") "all_weights") := He.meth_ok (x.at 86 rfl)
theorem Fx.m_Machine_texts (x : Fx K mg) : Meth K (He.ga K "Machine") "texts" (He.ma K (He.ga K "Machine") "texts") := He.meth_ok (x.at 87 rfl)
theorem Fx.m_Machine_weight_of (x : Fx K mg) : Meth K (He.ga K "Machine") "weight_of" (He.ma K (He.ga K "Machine") "weight_of") := He.meth_ok (x.at 88 rfl)
theorem Fx.c_Marking (x : Fx K mg) : Cls K (He.ga K "Marking") := He.cls_ok (x.at 89 rfl)
theorem Fx.k_Marking (x : Fx K mg) : Mk K (He.ga K "Marking") (He.ma K (He.ga K "Marking") "__init__") := He.mkr_ok (x.at 90 rfl)
theorem Fx.n_Marking_entries (x : Fx K mg) : NoAttr K (He.ga K "Marking") "entries" := He.noat_ok (x.at 91 rfl)
theorem Fx.n_Marking_whole (x : Fx K mg) : NoAttr K (He.ga K "Marking") "whole" := He.noat_ok (x.at 92 rfl)
theorem Fx.m_Marking_texts (x : Fx K mg) : Meth K (He.ga K "Marking") "texts" (He.ma K (He.ga K "Marking") "texts") := He.meth_ok (x.at 93 rfl)
theorem Fx.c_Flow (x : Fx K mg) : Cls K (He.ga K "Flow") := He.cls_ok (x.at 94 rfl)
theorem Fx.k_Flow (x : Fx K mg) : Mk K (He.ga K "Flow") (He.ma K (He.ga K "Flow") "__init__") := He.mkr_ok (x.at 95 rfl)
theorem Fx.n_Flow_fits (x : Fx K mg) : NoAttr K (He.ga K "Flow") "fits" := He.noat_ok (x.at 96 rfl)
theorem Fx.n_Flow_supply (x : Fx K mg) : NoAttr K (He.ga K "Flow") "supply" := He.noat_ok (x.at 97 rfl)
theorem Fx.n_Flow_room (x : Fx K mg) : NoAttr K (He.ga K "Flow") "room" := He.noat_ok (x.at 98 rfl)
theorem Fx.n_Flow_sent (x : Fx K mg) : NoAttr K (He.ga K "Flow") "sent" := He.noat_ok (x.at 99 rfl)
theorem Fx.n_Flow_reached (x : Fx K mg) : NoAttr K (He.ga K "Flow") "reached" := He.noat_ok (x.at 100 rfl)
theorem Fx.n_Flow_filled (x : Fx K mg) : NoAttr K (He.ga K "Flow") "filled" := He.noat_ok (x.at 101 rfl)
theorem Fx.m_Flow_search (x : Fx K mg) : Meth K (He.ga K "Flow") "search" (He.ma K (He.ga K "Flow") "search") := He.meth_ok (x.at 102 rfl)
theorem Fx.m_Flow_way_to (x : Fx K mg) : Meth K (He.ga K "Flow") "way_to" (He.ma K (He.ga K "Flow") "way_to") := He.meth_ok (x.at 103 rfl)
theorem Fx.m_Flow_fill (x : Fx K mg) : Meth K (He.ga K "Flow") "fill" (He.ma K (He.ga K "Flow") "fill") := He.meth_ok (x.at 104 rfl)
theorem Fx.m_Flow_pour (x : Fx K mg) : Meth K (He.ga K "Flow") "pour" (He.ma K (He.ga K "Flow") "pour") := He.meth_ok (x.at 105 rfl)
theorem Fx.x_UnknownText_UnknownText (x : Fx K mg) : PySem.W.exmOne K (.ref (He.ga K "UnknownText")) (.ref (He.ga K "UnknownText")) = some true := He.exm_ok (x.at 106 rfl)
theorem Fx.n_UnknownText_text (x : Fx K mg) : NoAttr K (He.ga K "UnknownText") "text" := He.noat_ok (x.at 107 rfl)
theorem Fx.fd_UnknownText_init (x : Fx K mg) : ∃ fd, FunD K "__init__" "UnknownText.__init__" (defArgs s_UnknownText_init) (defBody s_UnknownText_init) (defScope s_UnknownText_init) [] [] (He.fAd K ("UnknownText", some "__init__")) fd := x.df 0 (d := d_UnknownText_init) rfl
theorem Fx.fd_Changes_init (x : Fx K mg) : ∃ fd, FunD K "__init__" "Changes.__init__" (defArgs s_Changes_init) (defBody s_Changes_init) (defScope s_Changes_init) [] [] (He.fAd K ("Changes", some "__init__")) fd := x.df 1 (d := d_Changes_init) rfl
theorem Fx.fd_Changes_texts (x : Fx K mg) : ∃ fd, FunD K "texts" "Changes.texts" (defArgs s_Changes_texts) (defBody s_Changes_texts) (defScope s_Changes_texts) [] [] (He.fAd K ("Changes", some "texts")) fd := x.df 2 (d := d_Changes_texts) rfl
theorem Fx.fd_Changes_of (x : Fx K mg) : ∃ fd, FunD K "of" "Changes.of" (defArgs s_Changes_of) (defBody s_Changes_of) (defScope s_Changes_of) [] [] (He.fAd K ("Changes", some "of")) fd := x.df 3 (d := d_Changes_of) rfl
theorem Fx.fd_known (x : Fx K mg) : ∃ fd, FunD K "known" "known" (defArgs s_known) (defBody s_known) (defScope s_known) [] [] (He.fAd K ("known", none)) fd := x.df 4 (d := d_known) rfl
theorem Fx.fd_greatest_divisor (x : Fx K mg) : ∃ fd, FunD K "greatest_divisor" "greatest_divisor" (defArgs s_greatest_divisor) (defBody s_greatest_divisor) (defScope s_greatest_divisor) [] [] (He.fAd K ("greatest_divisor", none)) fd := x.df 5 (d := d_greatest_divisor) rfl
theorem Fx.fd_least_multiple (x : Fx K mg) : ∃ fd, FunD K "least_multiple" "least_multiple" (defArgs s_least_multiple) (defBody s_least_multiple) (defScope s_least_multiple) [] [] (He.fAd K ("least_multiple", none)) fd := x.df 6 (d := d_least_multiple) rfl
theorem Fx.fd_power (x : Fx K mg) : ∃ fd, FunD K "power" "power" (defArgs s_power) (defBody s_power) (defScope s_power) [] [] (He.fAd K ("power", none)) fd := x.df 7 (d := d_power) rfl
theorem Fx.fd_Share_init (x : Fx K mg) : ∃ fd, FunD K "__init__" "Share.__init__" (defArgs s_Share_init) (defBody s_Share_init) (defScope s_Share_init) [] [] (He.fAd K ("Share", some "__init__")) fd := x.df 8 (d := d_Share_init) rfl
theorem Fx.fd_Share_add (x : Fx K mg) : ∃ fd, FunD K "__add__" "Share.__add__" (defArgs s_Share_add) (defBody s_Share_add) (defScope s_Share_add) [] [] (He.fAd K ("Share", some "__add__")) fd := x.df 9 (d := d_Share_add) rfl
theorem Fx.fd_is_integer (x : Fx K mg) : ∃ fd, FunD K "_is_integer" "_is_integer" (defArgs s_is_integer) (defBody s_is_integer) (defScope s_is_integer) [] [] (He.fAd K ("_is_integer", none)) fd := x.df 10 (d := d_is_integer) rfl
theorem Fx.fd_Table_init (x : Fx K mg) : ∃ fd, FunD K "__init__" "Table.__init__" (defArgs s_Table_init) (defBody s_Table_init) (defScope s_Table_init) [] [] (He.fAd K ("Table", some "__init__")) fd := x.df 11 (d := d_Table_init) rfl
theorem Fx.fd_Table_texts (x : Fx K mg) : ∃ fd, FunD K "texts" "Table.texts" (defArgs s_Table_texts) (defBody s_Table_texts) (defScope s_Table_texts) [] [] (He.fAd K ("Table", some "texts")) fd := x.df 12 (d := d_Table_texts) rfl
theorem Fx.fd_Table_weight_of (x : Fx K mg) : ∃ fd, FunD K "weight_of" "Table.weight_of" (defArgs s_Table_weight_of) (defBody s_Table_weight_of) (defScope s_Table_weight_of) [] [] (He.fAd K ("Table", some "weight_of")) fd := x.df 13 (d := d_Table_weight_of) rfl
theorem Fx.fd_Machine_init (x : Fx K mg) : ∃ fd, FunD K "__init__" "Machine.__init__" (defArgs s_Machine_init) (defBody s_Machine_init) (defScope s_Machine_init) [] [] (He.fAd K ("Machine", some "__init__")) fd := x.df 14 (d := d_Machine_init) rfl
theorem Fx.fd_Machine_all_weights (x : Fx K mg) : ∃ fd, FunD K "all_weights" "Machine.all_weights" (defArgs s_Machine_all_weights) (defBody s_Machine_all_weights) (defScope s_Machine_all_weights) [] [] (He.fAd K ("Machine", some "all_weights")) fd := x.df 15 (d := d_Machine_all_weights) rfl
theorem Fx.fd_Machine_texts (x : Fx K mg) : ∃ fd, FunD K "texts" "Machine.texts" (defArgs s_Machine_texts) (defBody s_Machine_texts) (defScope s_Machine_texts) [] [] (He.fAd K ("Machine", some "texts")) fd := x.df 16 (d := d_Machine_texts) rfl
theorem Fx.fd_Machine_weight_of (x : Fx K mg) : ∃ fd, FunD K "weight_of" "Machine.weight_of" (defArgs s_Machine_weight_of) (defBody s_Machine_weight_of) (defScope s_Machine_weight_of) [] [] (He.fAd K ("Machine", some "weight_of")) fd := x.df 17 (d := d_Machine_weight_of) rfl
theorem Fx.fd_Marking_init (x : Fx K mg) : ∃ fd, FunD K "__init__" "Marking.__init__" (defArgs s_Marking_init) (defBody s_Marking_init) (defScope s_Marking_init) [] [] (He.fAd K ("Marking", some "__init__")) fd := x.df 18 (d := d_Marking_init) rfl
theorem Fx.fd_Marking_texts (x : Fx K mg) : ∃ fd, FunD K "texts" "Marking.texts" (defArgs s_Marking_texts) (defBody s_Marking_texts) (defScope s_Marking_texts) [] [] (He.fAd K ("Marking", some "texts")) fd := x.df 19 (d := d_Marking_texts) rfl
theorem Fx.fd_accused_by (x : Fx K mg) : ∃ fd, FunD K "accused_by" "accused_by" (defArgs s_accused_by) (defBody s_accused_by) (defScope s_accused_by) [] [] (He.fAd K ("accused_by", none)) fd := x.df 20 (d := d_accused_by) rfl
theorem Fx.fd_Flow_init (x : Fx K mg) : ∃ fd, FunD K "__init__" "Flow.__init__" (defArgs s_Flow_init) (defBody s_Flow_init) (defScope s_Flow_init) [] [] (He.fAd K ("Flow", some "__init__")) fd := x.df 21 (d := d_Flow_init) rfl
theorem Fx.fd_Flow_search (x : Fx K mg) : ∃ fd, FunD K "search" "Flow.search" (defArgs s_Flow_search) (defBody s_Flow_search) (defScope s_Flow_search) [] [] (He.fAd K ("Flow", some "search")) fd := x.df 22 (d := d_Flow_search) rfl
theorem Fx.fd_Flow_way_to (x : Fx K mg) : ∃ fd, FunD K "way_to" "Flow.way_to" (defArgs s_Flow_way_to) (defBody s_Flow_way_to) (defScope s_Flow_way_to) [] [] (He.fAd K ("Flow", some "way_to")) fd := x.df 23 (d := d_Flow_way_to) rfl
theorem Fx.fd_Flow_fill (x : Fx K mg) : ∃ fd, FunD K "fill" "Flow.fill" (defArgs s_Flow_fill) (defBody s_Flow_fill) (defScope s_Flow_fill) [] [] (He.fAd K ("Flow", some "fill")) fd := x.df 24 (d := d_Flow_fill) rfl
theorem Fx.fd_Flow_pour (x : Fx K mg) : ∃ fd, FunD K "pour" "Flow.pour" (defArgs s_Flow_pour) (defBody s_Flow_pour) (defScope s_Flow_pour) [] [] (He.fAd K ("Flow", some "pour")) fd := x.df 25 (d := d_Flow_pour) rfl
theorem Fx.fd_best_writer (x : Fx K mg) : ∃ fd, FunD K "best_writer" "best_writer" (defArgs s_best_writer) (defBody s_best_writer) (defScope s_best_writer) [] [] (He.fAd K ("best_writer", none)) fd := x.df 26 (d := d_best_writer) rfl
theorem Fx.fd_lot_bound (x : Fx K mg) : ∃ fd, FunD K "lot_bound" "lot_bound" (defArgs s_lot_bound) (defBody s_lot_bound) (defScope s_lot_bound) [] [] (He.fAd K ("lot_bound", none)) fd := x.df 27 (d := d_lot_bound) rfl
theorem Fx.fd_check_written (x : Fx K mg) : ∃ fd, FunD K "_check_written" "_check_written" (defArgs s_check_written) (defBody s_check_written) (defScope s_check_written) [] [] (He.fAd K ("_check_written", none)) fd := x.df 28 (d := d_check_written) rfl
theorem Fx.fd_found_share (x : Fx K mg) : ∃ fd, FunD K "found_share" "found_share" (defArgs s_found_share) (defBody s_found_share) (defScope s_found_share) [] [] (He.fAd K ("found_share", none)) fd := x.df 29 (d := d_found_share) rfl
theorem Fx.fd_law_stream (x : Fx K mg) : ∃ fd, FunD K "_law_stream" "_law_stream" (defArgs s_law_stream) (defBody s_law_stream) (defScope s_law_stream) [] [] (He.fAd K ("_law_stream", none)) fd := x.df 30 (d := d_law_stream) rfl
theorem Fx.fd_law_draw (x : Fx K mg) : ∃ fd, FunD K "_law_draw" "_law_draw" (defArgs s_law_draw) (defBody s_law_draw) (defScope s_law_draw) [] [] (He.fAd K ("_law_draw", none)) fd := x.df 31 (d := d_law_draw) rfl
theorem Fx.fd_law_large (x : Fx K mg) : ∃ fd, FunD K "_law_large" "_law_large" (defArgs s_law_large) (defBody s_law_large) (defScope s_law_large) [] [] (He.fAd K ("_law_large", none)) fd := x.df 32 (d := d_law_large) rfl
theorem Fx.fd_law_lowest (x : Fx K mg) : ∃ fd, FunD K "_law_lowest" "_law_lowest" (defArgs s_law_lowest) (defBody s_law_lowest) (defScope s_law_lowest) [] [] (He.fAd K ("_law_lowest", none)) fd := x.df 33 (d := d_law_lowest) rfl
theorem Fx.fd_law_is_whole (x : Fx K mg) : ∃ fd, FunD K "_law_is_whole" "_law_is_whole" (defArgs s_law_is_whole) (defBody s_law_is_whole) (defScope s_law_is_whole) [] [] (He.fAd K ("_law_is_whole", none)) fd := x.df 34 (d := d_law_is_whole) rfl
theorem Fx.fd_law_is_share (x : Fx K mg) : ∃ fd, FunD K "_law_is_share" "_law_is_share" (defArgs s_law_is_share) (defBody s_law_is_share) (defScope s_law_is_share) [] [] (He.fAd K ("_law_is_share", none)) fd := x.df 35 (d := d_law_is_share) rfl
theorem Fx.fd_law_text (x : Fx K mg) : ∃ fd, FunD K "_law_text" "_law_text" (defArgs s_law_text) (defBody s_law_text) (defScope s_law_text) [] [] (He.fAd K ("_law_text", none)) fd := x.df 36 (d := d_law_text) rfl
theorem Fx.fd_law_pool (x : Fx K mg) : ∃ fd, FunD K "_law_pool" "_law_pool" (defArgs s_law_pool) (defBody s_law_pool) (defScope s_law_pool) [] [] (He.fAd K ("_law_pool", none)) fd := x.df 37 (d := d_law_pool) rfl
theorem Fx.fd_law_part (x : Fx K mg) : ∃ fd, FunD K "_law_part" "_law_part" (defArgs s_law_part) (defBody s_law_part) (defScope s_law_part) [] [] (He.fAd K ("_law_part", none)) fd := x.df 38 (d := d_law_part) rfl
theorem Fx.fd_law_top (x : Fx K mg) : ∃ fd, FunD K "_law_top" "_law_top" (defArgs s_law_top) (defBody s_law_top) (defScope s_law_top) [] [] (He.fAd K ("_law_top", none)) fd := x.df 39 (d := d_law_top) rfl
theorem Fx.fd_law_source (x : Fx K mg) : ∃ fd, FunD K "_law_source" "_law_source" (defArgs s_law_source) (defBody s_law_source) (defScope s_law_source) [] [] (He.fAd K ("_law_source", none)) fd := x.df 40 (d := d_law_source) rfl
theorem Fx.fd_law_readable (x : Fx K mg) : ∃ fd, FunD K "_law_readable" "_law_readable" (defArgs s_law_readable) (defBody s_law_readable) (defScope s_law_readable) [] [] (He.fAd K ("_law_readable", none)) fd := x.df 41 (d := d_law_readable) rfl
theorem Fx.fd_law_finder (x : Fx K mg) : ∃ fd, FunD K "_law_finder" "_law_finder" (defArgs s_law_finder) (defBody s_law_finder) (defScope s_law_finder) [] [] (He.fAd K ("_law_finder", none)) fd := x.df 42 (d := d_law_finder) rfl
theorem Fx.fd_law_copy (x : Fx K mg) : ∃ fd, FunD K "_law_copy" "_law_copy" (defArgs s_law_copy) (defBody s_law_copy) (defScope s_law_copy) [] [] (He.fAd K ("_law_copy", none)) fd := x.df 43 (d := d_law_copy) rfl
theorem Fx.fd_law_reaches (x : Fx K mg) : ∃ fd, FunD K "_law_reaches" "_law_reaches" (defArgs s_law_reaches) (defBody s_law_reaches) (defScope s_law_reaches) [] [] (He.fAd K ("_law_reaches", none)) fd := x.df 44 (d := d_law_reaches) rfl
theorem Fx.fd_law_bound (x : Fx K mg) : ∃ fd, FunD K "_law_bound" "_law_bound" (defArgs s_law_bound) (defBody s_law_bound) (defScope s_law_bound) [] [] (He.fAd K ("_law_bound", none)) fd := x.df 45 (d := d_law_bound) rfl
theorem Fx.fd_law_entries (x : Fx K mg) : ∃ fd, FunD K "_law_entries" "_law_entries" (defArgs s_law_entries) (defBody s_law_entries) (defScope s_law_entries) [] [] (He.fAd K ("_law_entries", none)) fd := x.df 46 (d := d_law_entries) rfl
theorem Fx.fd_law_places_fit (x : Fx K mg) : ∃ fd, FunD K "_law_places_fit" "_law_places_fit" (defArgs s_law_places_fit) (defBody s_law_places_fit) (defScope s_law_places_fit) [] [] (He.fAd K ("_law_places_fit", none)) fd := x.df 47 (d := d_law_places_fit) rfl
theorem Fx.fd_law_unseen (x : Fx K mg) : ∃ fd, FunD K "_law_unseen" "_law_unseen" (defArgs s_law_unseen) (defBody s_law_unseen) (defScope s_law_unseen) [] [] (He.fAd K ("_law_unseen", none)) fd := x.df 48 (d := d_law_unseen) rfl
theorem Fx.fd_law_lot_fits (x : Fx K mg) : ∃ fd, FunD K "_law_lot_fits" "_law_lot_fits" (defArgs s_law_lot_fits) (defBody s_law_lot_fits) (defScope s_law_lot_fits) [] [] (He.fAd K ("_law_lot_fits", none)) fd := x.df 49 (d := d_law_lot_fits) rfl
theorem Fx.fd_law_refused (x : Fx K mg) : ∃ fd, FunD K "_law_refused" "_law_refused" (defArgs s_law_refused) (defBody s_law_refused) (defScope s_law_refused) [] [] (He.fAd K ("_law_refused", none)) fd := x.df 50 (d := d_law_refused) rfl
theorem Fx.fd_law_refusals_fit (x : Fx K mg) : ∃ fd, FunD K "_law_refusals_fit" "_law_refusals_fit" (defArgs s_law_refusals_fit) (defBody s_law_refusals_fit) (defScope s_law_refusals_fit) [] [] (He.fAd K ("_law_refusals_fit", none)) fd := x.df 51 (d := d_law_refusals_fit) rfl
theorem Fx.fd_law_lots_fit (x : Fx K mg) : ∃ fd, FunD K "_law_lots_fit" "_law_lots_fit" (defArgs s_law_lots_fit) (defBody s_law_lots_fit) (defScope s_law_lots_fit) [] [] (He.fAd K ("_law_lots_fit", none)) fd := x.df 52 (d := d_law_lots_fit) rfl
theorem Fx.fd_law_whole (x : Fx K mg) : ∃ fd, FunD K "_law_whole" "_law_whole" (defArgs s_law_whole) (defBody s_law_whole) (defScope s_law_whole) [] [] (He.fAd K ("_law_whole", none)) fd := x.df 53 (d := d_law_whole) rfl
theorem Fx.fd_law (x : Fx K mg) : ∃ fd, FunD K "law" "law" (defArgs s_law) (defBody s_law) (defScope s_law) [] [] (He.fAd K ("law", none)) fd := x.df 54 (d := d_law) rfl
end
end Km
end

section
set_option Elab.async false
set_option linter.all false
set_option maxRecDepth 100000
set_option maxHeartbeats 4000000
/-! Promises by name: a def, a method, a class; their rules; small helpers about heaps and sizes. -/
namespace Km
open PySem PySem.Spec PyProof.Rows L2
/-- the def x of the module keeps sp (arguments ps) -/
structure Cal (P : Program) (w : World) (K : PySem.W.Frag) (mg : Str → Option Value) (base : Heap) (CX : CXT) (k : Nat) (x : Str) (ps : List Str) (sp : Sp) : Prop where
  ex : ∃ (f : Addr) (fd : FuncData), mg x = some (.ref f) ∧ PySem.W.keepIn K (.ref f) = true ∧ FnOk P w K mg base CX k f fd ps sp ∧ Binds K fd ps []
/-- the method m of the class at C -/
structure Met (P : Program) (w : World) (K : PySem.W.Frag) (mg : Str → Option Value) (base : Heap) (CX : CXT) (k : Nat) (C : Addr) (m : Str) (ps : List Str) (sp : Sp) : Prop where
  cl : Cls K C
  ex : ∃ (f : Addr) (fd : FuncData), Meth K C m f ∧ FnOk P w K mg base CX k f fd ps sp ∧ Binds K fd ps []
/-- the class x at C by its __init__ -/
structure Mak (P : Program) (w : World) (K : PySem.W.Frag) (mg : Str → Option Value) (base : Heap) (CX : CXT) (k : Nat) (x : Str) (C : Addr) (ps : List Str) (sp : Sp) : Prop where
  gl : mg x = some (.ref C)
  ex : ∃ (f : Addr) (fd : FuncData), Mk K C f ∧ FnOk P w K mg base CX k f fd ps sp ∧ Binds K fd ps []
section
variable {P : Program} {w : World} {K : PySem.W.Frag} {mg : Str → Option Value} {base : Heap} {CX : CXT} {k : Nat} {N ps : List Str} {sp : Sp} {st : Stmt}
theorem Cal.of {x : Str} (hg : mg x = some (.ref (He.fAd K (x, none)))) (F : ∃ fd, FunD K x x (defArgs st) (defBody st) (defScope st) [] [] (He.fAd K (x, none)) fd) (S : FnScope N ps (defScope st))
    (hb : ∀ (dV kV doc pm : Value) (an : Option Addr) (cdv ct : Value) (us : List Value), us.length = ps.length → bindArgs (PySem.W.fnOf x x (defArgs st) (defBody st) (defScope st) .none kV doc pm an cdv ct) ⟨us, []⟩ = pure (ps.zip us))
    (len : ∀ vs H Q E, sp vs H Q E → vs.length = ps.length)
    (hbody : ∀ (f : Addr) (cdv : Value) (A : Around) (outer : List Env) (s : Shared) (H : Hp) (vs : List V) (Q : VK) (E : XK), Room k (A.deeper (envOfC x (defScope st) s.heap.objs.size f cdv)) → sp vs H Q E →
      ∃ t, PSs (cxOf CX P w K mg base N x (defScope st) f cdv A outer s H E) (defBody st) t ∧ t { nx := fun _ H' => Q .non H', rt := Q } (start N vs) H) : Cal P w K mg base CX (k + 1) x ps sp := by
  obtain ⟨fd, F⟩ := F
  exact ⟨_, fd, hg, F.kp, F.ok S len (fun cdv A outer s H vs Q E hr h => hbody _ cdv A outer s H vs Q E hr h), F.bindsN fun kV doc pm an cdv ct us hl => hb .none kV doc pm an cdv ct us hl⟩
theorem Met.of {C : Addr} {m qual : Str} {p : Str × Option Str} (cl : Cls K C) (hm : Meth K C m (He.fAd K p)) (F : ∃ fd, FunD K m qual (defArgs st) (defBody st) (defScope st) [] [] (He.fAd K p) fd) (S : FnScope N ps (defScope st))
    (hb : ∀ (dV kV doc pm : Value) (an : Option Addr) (cdv ct : Value) (us : List Value), us.length = ps.length → bindArgs (PySem.W.fnOf m qual (defArgs st) (defBody st) (defScope st) .none kV doc pm an cdv ct) ⟨us, []⟩ = pure (ps.zip us))
    (len : ∀ vs H Q E, sp vs H Q E → vs.length = ps.length)
    (hbody : ∀ (f : Addr) (cdv : Value) (A : Around) (outer : List Env) (s : Shared) (H : Hp) (vs : List V) (Q : VK) (E : XK), Room k (A.deeper (envOfC qual (defScope st) s.heap.objs.size f cdv)) → sp vs H Q E →
      ∃ t, PSs (cxOf CX P w K mg base N qual (defScope st) f cdv A outer s H E) (defBody st) t ∧ t { nx := fun _ H' => Q .non H', rt := Q } (start N vs) H) : Met P w K mg base CX (k + 1) C m ps sp := by
  obtain ⟨fd, F⟩ := F
  exact ⟨cl, _, fd, hm, F.ok S len (fun cdv A outer s H vs Q E hr h => hbody _ cdv A outer s H vs Q E hr h), F.bindsN fun kV doc pm an cdv ct us hl => hb .none kV doc pm an cdv ct us hl⟩
theorem Mak.of {x : Str} {C : Addr} {qual : Str} {p : Str × Option Str} (gl : mg x = some (.ref C)) (hm : Mk K C (He.fAd K p)) (F : ∃ fd, FunD K "__init__" qual (defArgs st) (defBody st) (defScope st) [] [] (He.fAd K p) fd) (S : FnScope N ps (defScope st))
    (hb : ∀ (dV kV doc pm : Value) (an : Option Addr) (cdv ct : Value) (us : List Value), us.length = ps.length → bindArgs (PySem.W.fnOf "__init__" qual (defArgs st) (defBody st) (defScope st) .none kV doc pm an cdv ct) ⟨us, []⟩ = pure (ps.zip us))
    (len : ∀ vs H Q E, sp vs H Q E → vs.length = ps.length)
    (hbody : ∀ (f : Addr) (cdv : Value) (A : Around) (outer : List Env) (s : Shared) (H : Hp) (vs : List V) (Q : VK) (E : XK), Room k (A.deeper (envOfC qual (defScope st) s.heap.objs.size f cdv)) → sp vs H Q E →
      ∃ t, PSs (cxOf CX P w K mg base N qual (defScope st) f cdv A outer s H E) (defBody st) t ∧ t { nx := fun _ H' => Q .non H', rt := Q } (start N vs) H) : Mak P w K mg base CX (k + 1) x C ps sp := by
  obtain ⟨fd, F⟩ := F
  exact ⟨gl, _, fd, hm, F.ok S len (fun cdv A outer s H vs Q E hr h => hbody _ cdv A outer s H vs Q E hr h), F.bindsN fun kV doc pm an cdv ct us hl => hb .none kV doc pm an cdv ct us hl⟩
theorem Cal.imp {x : Str} {sp' : Sp} (c : Cal P w K mg base CX k x ps sp) (h : ∀ vs H Q E, sp' vs H Q E → sp vs H Q E) : Cal P w K mg base CX k x ps sp' :=
  let ⟨f, fd, a, b, F, d⟩ := c.ex; ⟨f, fd, a, b, F.imp h, d⟩
end
section
variable {X : Cx} {CX : CXT} {j k : Nat} {C : Addr} {ps : List Str} {sp : Sp} {E : XK} {x m : Str} {p pos apos : Pos} {e o : Expr} {es : List Expr} {ta : TE} {t : TA}
theorem pe_c (c : Cal X.prog X.w X.K X.mg X.base CX k x ps sp) (hr : Room j X.A) (hk : k ≤ j) (hg : Gl X x) (hx : Passes CX X E) (ha : PA X (e :: es) t) (hdb : (x == ("__debug__" : Str)) = false := by decide)
    (he : starEach (e :: es) X.env = (false, eval e X.env) :: starEach es X.env := by rfl) (hpl : (backTo pos (starEach es X.env)).any (·.1) = false := by rfl) : PE X (.Call (.Name x p) (e :: es) [] pos) (tCall sp [] E t) := by
  obtain ⟨f, fd, hm, hk', F, hb⟩ := c.ex
  exact pe_call F (hr.mono hk) hg hm hk' hb .nil hx ha hdb he hpl
theorem pe_cs (c : Cal X.prog X.w X.K X.mg X.base CX k x ps sp) {Es : L2.St → XK} (hr : Room j X.A) (hk : k ≤ j) (hg : Gl X x) (hx : ∀ σ, PassesAt CX X σ (Es σ)) (ha : PA X (e :: es) t) (hdb : (x == ("__debug__" : Str)) = false := by decide)
    (he : starEach (e :: es) X.env = (false, eval e X.env) :: starEach es X.env := by rfl) (hpl : (backTo pos (starEach es X.env)).any (·.1) = false := by rfl) : PE X (.Call (.Name x p) (e :: es) [] pos) (tCallS sp Es t) := by
  obtain ⟨f, fd, hm, hk', F, hb⟩ := c.ex
  exact pe_callS F (hr.mono hk) hg hm hk' hb hx ha hdb he hpl
theorem pe_mt {pl : Sem Bool} (c : Met X.prog X.w X.K X.mg X.base CX k C m ps sp) (hr : Room j X.A) (hk : k ≤ j) (hx : Passes CX X E) (ho : PE X o ta) (ha : PA X (e :: es) t)
    (hst : starEach (e :: es) X.env = (false, eval e X.env) :: starEach es X.env := by rfl) (hpl : (backTo pos (starEach es X.env)).any (·.1) = false := by rfl)
    (ht : eval (.Call (.Attribute o m apos) (e :: es) [] pos) X.env = (do
      let ov ← eval o X.env
      standAt apos.atName
      let (f, first) ← holding [ov] (getMethod ov m pl)
      callWith pos f first (backTo pos (starEach (e :: es) X.env)) (backToKw pos (keywordEach [] X.env))) := by rfl) :
    PE X (.Call (.Attribute o m apos) (e :: es) [] pos) (tMeth C m sp [] E ta t) := by
  obtain ⟨f, fd, hm, F, hb⟩ := c.ex
  exact pe_meth (pl := pl) ho c.cl hm F (hr.mono hk) hb .nil hx ha hst hpl ht
theorem pe_mt0 {pl : Sem Bool} (c : Met X.prog X.w X.K X.mg X.base CX k C m ps sp) (hr : Room j X.A) (hk : k ≤ j) (hx : Passes CX X E) (ho : PE X o ta)
    (ht : eval (.Call (.Attribute o m apos) [] [] pos) X.env = (do
      let ov ← eval o X.env
      standAt apos.atName
      let (f, first) ← holding [ov] (getMethod ov m pl)
      callWith pos f first (backTo pos (starEach [] X.env)) (backToKw pos (keywordEach [] X.env))) := by rfl) :
    PE X (.Call (.Attribute o m apos) [] [] pos) (tMeth C m sp [] E ta tNil) := by
  obtain ⟨f, fd, hm, F, hb⟩ := c.ex
  exact pe_meth0 (pl := pl) ho c.cl hm F (hr.mono hk) hb .nil hx ht
theorem pe_mk (c : Mak X.prog X.w X.K X.mg X.base CX k x C ps sp) (hr : Room j X.A) (hk : k + 1 ≤ j) (hg : Gl X x) (hx : Passes CX X E) (ha : PA X (e :: es) t) (hdb : (x == ("__debug__" : Str)) = false := by decide)
    (he : starEach (e :: es) X.env = (false, eval e X.env) :: starEach es X.env := by rfl) (hpl : (backTo pos (starEach es X.env)).any (·.1) = false := by rfl) : PE X (.Call (.Name x p) (e :: es) [] pos) (tMake C sp [] E t) := by
  obtain ⟨f, fd, M, F, hb⟩ := c.ex
  exact pe_make M F (hr.mono hk) hg c.gl hb .nil hx ha hdb he hpl
end
theorem blkOk_rel {N : List Str} {scope1 sc0 scope : Scope} {own : List (Str × Nat)} (h : blkC N (relS scope1 sc0) scope own = true) : BlkOk N (relS scope1 sc0) scope own := blkOk_by h
/-- two readings of what a for walks -/
theorem pi_or {X : Cx} {tg l : Expr} {w1 w2 : TI} (h1 : PI X tg l w1) (h2 : PI X tg l w2) : PI X tg l (fun σ H R => w1 σ H R ∨ w2 σ H R) :=
  ⟨fun pins s σ H R I h => h.elim (h1.run pins s σ H R I) (h2.run pins s σ H R I)⟩
/-! ### heaps -/
/-- all that was tracked is as it was, but for what stands at p -/
def Sm (p : Addr) (H H' : Hp) : Prop := ∀ b o, b ≠ p → H b = some o → H' b = some o
theorem Sm.refl (p : Addr) (H : Hp) : Sm p H H := fun _ _ _ h => h
theorem Sm.trans {p : Addr} {H H1 H2 : Hp} (a : Sm p H H1) (b : Sm p H1 H2) : Sm p H H2 := fun c o n h => b c o n (a c o n h)
theorem Sm.of {p : Addr} {H H' : Hp} (a : Same H H') : Sm p H H' := fun c o _ h => a c o h
theorem Sm.upd {p q : Addr} {H H1 : Hp} {o : HO} (a : Sm p H H1) (h : H q = none) : Sm p H (L2.upd H1 q o) := fun b u n e => by
  rw [upd_ne (ne_of_none e h)]
  exact a b u n e
theorem Sm.at {p : Addr} {H H1 : Hp} {o : HO} (a : Sm p H H1) : Sm p H (L2.upd H1 p o) := fun b u n e => by
  rw [upd_ne n]
  exact a b u n e
theorem upd_at {H : Hp} {a p : Addr} {o u : HO} (h : H a = some u) (n : H p = none) : upd H p o a = some u := by
  rw [upd_ne (ne_of_none h n)]
  exact h
theorem upd_to {H : Hp} {a p : Addr} {o u : HO} (h : H a = some u) (n : a ≠ p) : upd H p o a = some u := by
  rw [upd_ne n]
  exact h
theorem same_upd {H H1 : Hp} {q : Addr} {o : HO} (a : Same H H1) (h : H q = none) : Same H (upd H1 q o) := fun b u e => by
  rw [upd_ne (ne_of_none e h)]
  exact a b u e
theorem same_new {H : Hp} {q : Addr} {o : HO} (h : H q = none) : Same H (upd H q o) := same_upd (Same.refl H) h
theorem same_free {H H1 : Hp} (a : Same H H1) {q : Addr} (h : H1 q = none) : H q = none := a.free h
/-! ### sizes -/
/-- |i| < 2^n -/
def Bd (n : Nat) (i : Int) : Prop := i.natAbs < 2 ^ n
theorem Bd.mono {n m : Nat} {i : Int} (h : Bd n i) (hm : n ≤ m) : Bd m i := Nat.lt_of_lt_of_le h (Nat.pow_le_pow_right (by decide) hm)
theorem Bd.mul {n m : Nat} {i j : Int} (h : Bd n i) (h' : Bd m j) : Bd (n + m) (i * j) := by
  unfold Bd at *
  exact wide_lt h h'
theorem Bd.le {n : Nat} {i j : Int} (h : Bd n j) (h0 : 0 ≤ i) (h1 : i ≤ j) : Bd n i := wide_le h0 h1 h
theorem mulW_of {i j : Int} (h : Bd 8000 i) (h' : Bd 8000 j) : CMulW i j := wide_mul h h' (by decide) (by decide) (by decide)
theorem divW_of {i j : Int} (h0 : 0 < j) (h' : Bd 8000 j) : CDivW i j := wide_div h0 h' (by decide) (by decide)
theorem pow_pos2 (n : Nat) : 0 < 2 ^ n := Nat.pow_pos (by decide)
theorem Bd.add {n m : Nat} {i j : Int} (h : Bd n i) (h' : Bd m j) (hm : m ≤ n) : Bd (n + 1) (i + j) := by
  have h2 := h'.mono hm
  unfold Bd at *
  have e : 2 ^ (n + 1) = 2 ^ n + 2 ^ n := by rw [Nat.pow_succ]; omega
  rw [e]
  omega
theorem Bd.sum {n : Nat} {ns : List Int} (h : ∀ i ∈ ns, Bd n i) : ns.sum.natAbs ≤ ns.length * 2 ^ n := by
  induction ns with
  | nil => simp
  | cons a r ih =>
    have h1 := h a (by simp)
    have h2 := ih fun i hi => h i (by simp [hi])
    unfold Bd at h1
    rw [List.sum_cons, List.length_cons, Nat.add_mul]
    omega
theorem Bd.sums {n k : Nat} {ns : List Int} (h : ∀ i ∈ ns, Bd n i) (hl : ns.length < 2 ^ k) : Bd (k + n) ns.sum := by
  have h1 := Bd.sum h
  unfold Bd
  rw [Nat.pow_add]
  exact Nat.lt_of_le_of_lt h1 (Nat.mul_lt_mul_of_pos_right hl (pow_pos2 n))
end Km
end

section
set_option Elab.async false
set_option linter.all false
set_option maxRecDepth 100000
set_option maxHeartbeats 4000000
/-! The rules whose reading names the written part, with that part as a letter (for blocks within a def). -/
namespace Km
open PySem PySem.Spec PyProof.Rows L2
section
variable {X : Cx} {K : PySem.W.Frag} {ta : TE} {t : TA} {e : Expr}
theorem pe_fldK {f : Str} {pos : Pos} (hK : X.K = K) (he : PE X e ta) (hb : attributeBase e f X.env (eval e X.env) = eval e X.env) : PE X (.Attribute e f pos) (tFld K ta f) := by subst hK; exact pe_fld he hb
theorem pe_tupleOfK {p pos : Pos} (hK : X.K = K) (hg : Gl X "tuple") (hm : X.mg "tuple" = none) (ha : PE X e ta) (na : starEach [e] X.env = (false, eval e X.env) :: starEach [] X.env := by rfl) : PE X (.Call (.Name "tuple" p) [e] [] pos) (tThen ta (kTup K)) := by subst hK; exact pe_tupleOf hg hm ha na
theorem ix_listK (hK : X.K = K) : IxR X (rIxL K) := by subst hK; exact ix_list
theorem ix_tupK (hK : X.K = K) : IxR X (rIxT K) := by subst hK; exact ix_tup
theorem sl_listK (hK : X.K = K) : SlR X (rSlL K) := by subst hK; exact sl_list
theorem op_in_seqK (hK : X.K = K) : OpR X (compareOp .In) (rIn K false) := by subst hK; exact op_in_seq
theorem op_notIn_seqK (hK : X.K = K) : OpR X (compareOp .NotIn) (rIn K true) := by subst hK; exact op_notIn_seq
def rLn (K : PySem.W.Frag) : List V → Hp → VK → Prop := fun xs H Q => ∃ x n, xs = [x] ∧ LenV K x H n ∧ Q (.int n) H
theorem call_lenK (hK : X.K = K) : CallR X (.builtin "len") (rLn K) := by subst hK; exact call_len
def rLstOf (K : PySem.W.Frag) : List V → Hp → VK → Prop := fun xs H Q => ∃ p ys, xs = [.ref p] ∧ (SqL K H p ys ∨ SqT K H p ys) ∧ ∀ l, H l = none → Q (.ref l) (upd H l (.lst ys))
theorem call_list_ofK (hK : X.K = K) : CallR X (.type "list") (rLstOf K) := by subst hK; exact call_list_of
theorem cr_sumK (hK : X.K = K) (hc : X.calm = true) : CallR X (.builtin "sum") (rSum K) := by subst hK; exact cr_sum hc
theorem cr_sortedK (hK : X.K = K) : CallR X (.builtin "sorted") (rSorted K) := by subst hK; exact cr_sorted
theorem cr_sortedSK (hK : X.K = K) : CallR X (.builtin "sorted") (rSortedS K) := by subst hK; exact cr_sortedS
theorem cr_anyK (hK : X.K = K) (hc : X.calm = true) : CallR X (.builtin "any") (rAny K) := by subst hK; exact cr_any hc
theorem cr_allK (hK : X.K = K) (hc : X.calm = true) : CallR X (.builtin "all") (rAll K) := by subst hK; exact cr_all hc
theorem call_isiK (hK : X.K = K) : CallR X (.builtin "isinstance") (rIsi K) := by subst hK; exact call_isi
theorem op_neDK (hK : X.K = K) (hu : X.A.units + 64 < cLine) : OpR X (compareOp .NotEq) (rNeD K) := by subst hK; exact op_neD hu
theorem pg_tupK {es : List Expr} {k : Nat} {t : TGs} {n : Nat} {pos : Pos} (hK : X.K = K) (hc : X.calm = true) (h : PGs X es t) (hn : (assignEach es X.env).length = n := by rfl) (hst : (assignEach es X.env).findIdx? (·.1) = none := by rfl) : PG X (.Tuple es k pos) (gTup K n t) := by subst hK; exact pg_tup hc h hn hst
theorem pg_lstK {es : List Expr} {k : Nat} {t : TGs} {n : Nat} {pos : Pos} (hK : X.K = K) (hc : X.calm = true) (h : PGs X es t) (hn : (assignEach es X.env).length = n := by rfl) (hst : (assignEach es X.env).findIdx? (·.1) = none := by rfl) : PG X (.Tuple es k pos) (gLst K n t) := by subst hK; exact pg_lst hc h hn hst
theorem pi_listK {tg : Expr} (hK : X.K = K) (hl : PE X e ta) : PI X tg e (iList K ta) := by subst hK; exact pi_list hl
theorem pi_tupK {tg : Expr} (hK : X.K = K) (hl : PE X e ta) : PI X tg e (iTup K ta) := by subst hK; exact pi_tup hl
end
theorem op_addSh {X : Cx} {C : Addr} {k j : Nat} {ps : List Str} {sp : Sp} (c : Met X.prog X.w X.K X.mg X.base CX0 k C "__add__" ps sp) (hs : PySem.W.selfFirst X.K C = true) (hr : Room j X.A) (hk : k ≤ j) : OpR X (binaryOp .Add) (rAddOwn C sp E0) := by
  obtain ⟨f, fd, hm, F, hb⟩ := c.ex
  exact op_addOwn hs hm F (hr.mono hk) hb pass0
/-! ### what exB says -/
section
variable {K : PySem.W.Frag} {mg : Str → Option Value}
theorem ba2 {a b : Bool} (h : (a && b) = true) : a = true ∧ b = true := Bool.and_eq_true_iff.mp h
theorem o1_ok {a b : Option (Option Value)} (h : o1 a b = true) : a = b := of_decide_eq_true h
theorem Fx.selfShare (x : Fx K mg) : PySem.W.selfFirst K (He.ga K "Share") = true := (ba2 x.ex).1
theorem oexB_ok {C : Addr} (h : oexB K C = true) : ∃ nm q N bs bm sn sub ab col dd k0 k1 k2 k3 k5, K.lookup C = some (PySem.excClassObj nm q C N bs bm true sn sub ab col dd k0 k1 k2 k3 k5 "ValueError.__new__") ∧ PySem.HandSPX.refsVE bm = true := by
  unfold oexB at h
  split at h
  · rename_i dd cd sl e
    split at h
    · rename_i C1 bm k0 k1 k2 k3 n k5 hm hs
      obtain ⟨h1, h⟩ := ba2 h
      obtain ⟨h2, h⟩ := ba2 h
      obtain ⟨h3, h⟩ := ba2 h
      obtain ⟨h4, h5⟩ := ba2 h
      have e1 : C1 = C := eq_of_beq h1
      have e2 : n = "ValueError.__new__" := eq_of_beq h2
      obtain ⟨nm, bs, mro, ns, qn, hd, sn, sb, ab, col, del⟩ := cd
      dsimp only at hm h3 h5
      subst e1 e2 hm h5
      have e3 : del = false := by simpa using h3
      subst e3
      have e4 : sl = #[k0, k1, k2, k3, some (.builtin "ValueError.__new__"), k5] := by
        rw [← Array.toArray_toList (xs := sl), hs]
      subst e4
      exact ⟨nm, qn, ns, bs, bm, sn, sb, ab, col, dd, k0, k1, k2, k3, k5, e, h4⟩
    · cases h
  · cases h
theorem Fx.oex (x : Fx K mg) : OexC K (He.ga K "UnknownText") := by
  obtain ⟨_, h⟩ := ba2 x.ex
  obtain ⟨h1, h⟩ := ba2 h
  obtain ⟨h2, h⟩ := ba2 h
  obtain ⟨h3, h⟩ := ba2 h
  obtain ⟨h4, h⟩ := ba2 h
  obtain ⟨h5, h⟩ := ba2 h
  obtain ⟨h6, h⟩ := ba2 h
  obtain ⟨h7, h⟩ := ba2 h
  exact ⟨oexB_ok h1, o1_ok h2, (xfB_ok h7).exC, of_decide_eq_true h4, h3⟩
theorem Fx.iUT (x : Fx K mg) : PySem.W.findIn K (.ref (He.ga K "UnknownText")) "__init__" = some (some (.ref (He.ma K (He.ga K "UnknownText") "__init__"))) ∧ PySem.W.typeIn K (.ref (He.ma K (He.ga K "UnknownText") "__init__")) = some (.type "function") ∧ XfC K (He.ga K "UnknownText") := by
  obtain ⟨_, h⟩ := ba2 x.ex
  obtain ⟨h1, h⟩ := ba2 h
  obtain ⟨h2, h⟩ := ba2 h
  obtain ⟨h3, h⟩ := ba2 h
  obtain ⟨h4, h⟩ := ba2 h
  obtain ⟨h5, h⟩ := ba2 h
  obtain ⟨h6, h⟩ := ba2 h
  obtain ⟨h7, h⟩ := ba2 h
  exact ⟨o1_ok h5, of_decide_eq_true h6, xfB_ok h7⟩
theorem clsB_ok {C : Addr} (h : clsB K C = true) : PySem.W.findIn K (.ref C) "__class__" = some (some (.builtin "object.__class__")) ∧ PySem.W.mroIn K C (.type "object") = some true :=
  ⟨o1_ok (ba2 h).1, of_decide_eq_true (ba2 h).2⟩
theorem Fx.excC (x : Fx K mg) : ExcC K (He.ga K "UnknownText") ∧ (clsB K (He.ga K "Share") = true ∧ clsB K (He.ga K "Marking") = true) ∧ PySem.W.specialIn K (.builtin "object.__class__") "__get__" = some (some (.builtin "getset_descriptor.__get__")) ∧
    PySem.W.takesIn K (.builtin "object.__class__") = some true ∧ PySem.W.kitOne K (.ref (He.ga K "UnknownText")) (.ref (He.ga K "MarkError")) = some true ∧ PySem.W.kitOne K (.ref (He.ga K "UnknownText")) (.ref (He.ga K "Seen")) = some false := by
  obtain ⟨_, h⟩ := ba2 x.ex
  obtain ⟨h1, h⟩ := ba2 h
  obtain ⟨h2, h⟩ := ba2 h
  obtain ⟨h3, h⟩ := ba2 h
  obtain ⟨h4, h⟩ := ba2 h
  obtain ⟨h5, h⟩ := ba2 h
  obtain ⟨h6, h⟩ := ba2 h
  obtain ⟨h7, h⟩ := ba2 h
  obtain ⟨h8, h⟩ := ba2 h
  obtain ⟨h9, h⟩ := ba2 h
  obtain ⟨h10, h⟩ := ba2 h
  obtain ⟨h11, h⟩ := ba2 h
  obtain ⟨h12, h⟩ := ba2 h
  obtain ⟨h13, h14⟩ := ba2 h
  have X := xfB_ok h7
  exact ⟨⟨X.ga, X.gg, X.exC, X.hdC, (clsB_ok h8).1, o1_ok h11, of_decide_eq_true h12, (clsB_ok h8).2⟩, ⟨h9, h10⟩, o1_ok h11, of_decide_eq_true h12, of_decide_eq_true h13, of_decide_eq_true h14⟩
end
theorem m2_mk {X : Cx} {o : Expr} {m : Str} {apos : Pos} {e f : Expr} {cpos : Pos} (base : attributeBase o m X.env (eval o X.env) = eval o X.env)
  (few : ((backTo cpos (starEach [e, f] X.env)).all (fun x => !x.1) && (backToKw cpos (keywordEach [] X.env)).all (fun x => x.1.isSome)
    && decide (([e, f] : List Expr).length + ([] : List Keyword).length + (if ([] : List Keyword).isEmpty then 0 else 1) < 30)) = true)
  (line : (apos.endLine == cpos.line) = true)
  (trees : backTo cpos (starEach [e, f] X.env) = [(false, eval e X.env), (false, eval f X.env)]) : M2 X o m apos e f cpos := ⟨base, few, line, trees⟩
end Km
end

section
set_option Elab.async false
set_option linter.all false
set_option maxRecDepth 100000
set_option maxHeartbeats 4000000
/-! Numbers: the small defs. -/
namespace Km
open PySem PySem.Spec PyProof.Rows L2
variable {P : Program} {w : World} {K : PySem.W.Frag} {mg : Str → Option Value} {base : Heap}
abbrev N_greatest_divisor : List PySem.Str := ["a", "b"]
theorem sc_greatest_divisor : FnScope N_greatest_divisor ["a", "b"] (defScope s_greatest_divisor) := ⟨rfl, rfl, rfl, by decide +kernel, rfl, by decide +kernel, by decide +kernel⟩

def spGcd : Sp := fun vs H Q _ => ∃ a b : Nat, vs = [.int a, .int b] ∧ Q (.int (Nat.gcd a b : Nat)) H
theorem ok_gd (fx : Fx K mg) : Cal P w K mg base CX0 1 "greatest_divisor" ["a", "b"] spGcd := by
  refine Cal.of (st := s_greatest_divisor) fx.g_greatest_divisor fx.fd_greatest_divisor sc_greatest_divisor (fun _ _ _ _ _ _ _ us hl => match us, hl with | [_, _], _ => rfl) (fun vs H Q E h => by obtain ⟨a, b, rfl, _⟩ := h; rfl) fun f cdv A outer s H vs Q E hr h => ⟨_, PSs.nox (pss_cons (ps_while PassesOwn.never (pt_cmpR op_gt (pv 1) pe_int (nomark _)) (pss_one (ps_par (i := 0) (j := 1) rfl sc_greatest_divisor.nd rfl rfl (by decide) rfl rfl (pa_cons (pv 1) (pa_cons (pe_op op_mod (pv 0) (pv 1)) pa_nil)) rfl))) (pss_one (ps_ret (pv 0)))), ?_⟩
  obtain ⟨a, b, rfl, hq⟩ := h
  refine ⟨fun m σ H' => ∃ a' b' : Nat, σ = [some (.int a'), some (.int b')] ∧ H' = H ∧ Nat.gcd a' b' = Nat.gcd a b ∧ m = b', ⟨_, a, b, rfl, rfl, rfl, rfl⟩, ?_⟩
  rintro m σ H' ⟨a', b', rfl, rfl, hg, rfl⟩
  refine ⟨_, rfl, _, _, rfl, rfl, _, rfl, ?_⟩
  refine ite2 (fun hb => ?_) (fun hb => ?_)
  · have hb : (0 : Int) < m := by simpa using hb
    have hb : 0 < m := by omega
    refine ⟨fun σ' H2 => H2 = H' ∧ σ' = [some (.int m), some (.int ((a' % m : Nat) : Int))], fun σ' H2 h => ?_, ?_⟩
    · obtain ⟨rfl, rfl⟩ := h
      refine ⟨_, Nat.mod_lt a' hb, _, _, rfl, rfl, ?_, rfl⟩
      rw [← hg, Nat.gcd_comm a' m, Nat.gcd_rec m a', Nat.gcd_comm]
    · refine ⟨_, rfl, _, rfl, _, rfl, _, _, rfl, rfl, by omega, _, _, rfl, rfl, ?_⟩
      rfl
  · have hb : ¬ (0 : Int) < m := by simpa using hb
    have hb : m = 0 := by omega
    subst hb
    rw [Nat.gcd_zero_right] at hg
    subst hg
    exact ⟨_, rfl, hq⟩
abbrev N_least_multiple : List PySem.Str := ["a", "b"]
theorem sc_least_multiple : FnScope N_least_multiple ["a", "b"] (defScope s_least_multiple) := ⟨rfl, rfl, rfl, by decide +kernel, rfl, by decide +kernel, by decide +kernel⟩

def spLm : Sp := fun vs H Q _ => ∃ a b : Nat, vs = [.int a, .int b] ∧ 0 < a ∧ 0 < b ∧ Bd 4000 a ∧ Bd 4000 b ∧ Q (.int ((a / Nat.gcd a b * b : Nat) : Int)) H
theorem ok_lm (fx : Fx K mg) : Cal P w K mg base CX0 2 "least_multiple" ["a", "b"] spLm := by
  have cal_greatest_divisor : Cal P w K mg base CX0 1 "greatest_divisor" ["a", "b"] spGcd := ok_gd fx
  refine Cal.of (st := s_least_multiple) fx.g_least_multiple fx.fd_least_multiple sc_least_multiple (fun _ _ _ _ _ _ _ us hl => match us, hl with | [_, _], _ => rfl) (fun vs H Q E h => by obtain ⟨a, b, rfl, _⟩ := h; rfl) fun f cdv A outer s H vs Q E hr h => ⟨_, PSs.nox (pss_one (ps_ret (pe_op op_mulW (pe_op op_fdivW (pv 0) (pe_c cal_greatest_divisor hr (by decide) rfl pass0 (pa_cons (pv 0) (pa_cons (pv 1) pa_nil)))) (pv 1)))), ?_⟩
  obtain ⟨a, b, rfl, ha, hb, ba, bb, hq⟩ := h
  have hg : 0 < Nat.gcd a b := Nat.gcd_pos_of_pos_left _ ha
  have hle : Nat.gcd a b ≤ a := Nat.gcd_le_left _ ha
  have e : ((a : Int) / ((Nat.gcd a b : Nat) : Int)) = ((a / Nat.gcd a b : Nat) : Int) := (Int.natCast_ediv a _).symm
  refine ⟨_, rfl, _, rfl, _, rfl, a, b, rfl, _, _, rfl, rfl, divW_of (by omega) ((ba.le (by omega) (by omega)).mono (by decide)), _, rfl, _, _, rfl, rfl, ?_, ?_⟩
  · refine mulW_of ?_ (bb.mono (by decide))
    rw [e]
    exact (ba.le (Int.natCast_nonneg _) (Int.ofNat_le.mpr (Nat.div_le_self _ _))).mono (by decide)
  · show Q (.int ((a : Int) / ((Nat.gcd a b : Nat) : Int) * b)) H
    rw [e]
    exact hq
abbrev N_power : List PySem.Str := ["a", "n", "found", "_"]
theorem sc_power : FnScope N_power ["a", "n"] (defScope s_power) := ⟨rfl, rfl, rfl, by decide +kernel, rfl, by decide +kernel, by decide +kernel⟩

def spPow : Sp := fun vs H Q _ => ∃ (a : Int) (n : Nat), vs = [.int a, .int n] ∧ n ≤ 3 ∧ Bd 1000 a ∧ Q (.int (a ^ n)) H
theorem bd_pow {a : Int} (h : Bd 1000 a) : ∀ n : Nat, Bd (1000 * n + 1) (a ^ n)
  | 0 => by rw [Int.pow_zero]; show (1 : Int).natAbs < 2 ^ 1; decide
  | n + 1 => by
    rw [Int.pow_succ]
    have := (bd_pow h n).mul h
    exact this.mono (by omega)
theorem ok_pow (fx : Fx K mg) : Cal P w K mg base CX0 1 "power" ["a", "n"] spPow := by
  refine Cal.of (st := s_power) fx.g_power fx.fd_power sc_power (fun _ _ _ _ _ _ _ us hl => match us, hl with | [_, _], _ => rfl) (fun vs H Q E h => by obtain ⟨a, b, rfl, _⟩ := h; rfl) fun f cdv A outer s H vs Q E hr h => ⟨_, PSs.nox (pss_cons (ps_set (i := 2) sc_power.nd rfl (.inl rfl) pe_int) (pss_cons (ps_for PassesOwn.never rfl (pi_range1 rfl fx.f_range (pa_cons (pv 1) pa_nil)) (pg_name (i := 3) sc_power.nd rfl (.inl rfl)) (pss_one (ps_set (i := 2) sc_power.nd rfl (.inl rfl) (pe_op op_mulW (pv 2) (pv 0))))) (pss_one (ps_ret (pv 2))))), ?_⟩
  obtain ⟨a, n, rfl, hn, ha, hq⟩ := h
  refine ⟨_, rfl, _, rfl, by omega, by omega, for_range (n := n) (fun i σ H' => ∃ o, H' = H ∧ σ = [some (.int a), some (.int n), some (.int (a ^ i)), o]) ⟨none, rfl, by rw [Int.pow_zero]; rfl⟩ ?_ ?_⟩
  · rintro i σ H' hi ⟨o, rfl, rfl⟩
    refine ⟨_, rfl, _, rfl, _, _, rfl, rfl, mulW_of ((bd_pow ha i).mono (by omega)) (ha.mono (by decide)), ?_⟩
    exact ⟨_, rfl, by rw [Int.pow_succ]; rfl⟩
  · rintro σ H' ⟨o, rfl, rfl⟩
    exact ⟨_, rfl, hq⟩
/-! ### shares -/
def ShareAt (K : PySem.W.Frag) (H : Hp) (a : Addr) (n d : Nat) : Prop := ∃ dx, H a = some (.ins (He.ga K "Share") dx [("over", .int n), ("under", .int d)])
theorem ShareAt.same {H H' : Hp} {a : Addr} {n d : Nat} (h : ShareAt K H a n d) (s : Same H H') : ShareAt K H' a n d := let ⟨dx, e⟩ := h; ⟨dx, s _ _ e⟩
abbrev N_Share_init : List PySem.Str := ["self", "over", "under", "divisor"]
theorem sc_Share_init : FnScope N_Share_init ["self", "over", "under"] (defScope s_Share_init) := ⟨rfl, rfl, rfl, by decide +kernel, rfl, by decide +kernel, by decide +kernel⟩

def spShI (K : PySem.W.Frag) : Sp := fun vs H Q _ => ∃ (x dx : Addr) (n d : Nat), vs = [.ref x, .int n, .int d] ∧ 0 < d ∧ Bd 7000 n ∧ Bd 7000 d ∧ H x = some (.ins (He.ga K "Share") dx []) ∧
  Q .non (upd H x (.ins (He.ga K "Share") dx [("over", .int ((n / Nat.gcd n d : Nat) : Int)), ("under", .int ((d / Nat.gcd n d : Nat) : Int))]))
theorem abs_nat (n : Nat) : (if (n : Int) < 0 then -(n : Int) else n) = n := if_neg (by omega)
theorem ok_shI (fx : Fx K mg) : Mak P w K mg base CX0 2 "Share" (He.ga K "Share") ["self", "over", "under"] (spShI K) := by
  have cal_greatest_divisor : Cal P w K mg base CX0 1 "greatest_divisor" ["a", "b"] spGcd := ok_gd fx
  refine Mak.of (p := ("Share", some "__init__")) (st := s_Share_init) fx.g_Share fx.k_Share fx.fd_Share_init sc_Share_init (fun _ _ _ _ _ _ _ us hl => match us, hl with | [_, _, _], _ => rfl) (fun vs H Q E h => by obtain ⟨x, dx, n, d, rfl, _⟩ := h; rfl) fun f cdv A outer s H vs Q E hr h => ⟨_, PSs.nox (pss_cons (ps_if (pt_cmpR op_eq (pv 2) pe_int (nomark _)) (pss_one ps_never) pss_nil) (pss_cons (ps_set (i := 3) sc_Share_init.nd rfl (.inl rfl) (pe_c cal_greatest_divisor hr (by decide) rfl pass0 (pa_cons (pe_callB call_abs rfl fx.f_abs boot_abs (pa_cons (pv 1) pa_nil)) (pa_cons (pe_callB call_abs rfl fx.f_abs boot_abs (pa_cons (pv 2) pa_nil)) pa_nil)))) (pss_cons (ps_if (pt_cmpR op_lt (pv 2) pe_int (nomark _)) (pss_one (ps_set (i := 3) sc_Share_init.nd rfl (.inl rfl) (pe_un un_neg (pv 3)))) pss_nil) (pss_cons (ps_fld (pv 0) (pe_op op_fdivW (pv 1) (pv 3)) rfl) (pss_one (ps_fld (pv 0) (pe_op op_fdivW (pv 2) (pv 3)) rfl)))))), ?_⟩
  obtain ⟨x, dx, n, d, rfl, hd, bn, bd, hx, hq⟩ := h
  have hg : 0 < Nat.gcd n d := Nat.gcd_pos_of_pos_right _ hd
  have hle : Nat.gcd n d ≤ d := Nat.gcd_le_right _ hd
  have bg : Bd 8000 ((Nat.gcd n d : Nat) : Int) := (bd.le (by omega) (by omega)).mono (by decide)
  refine ⟨_, rfl, rfl, _, rfl, ite2 (fun z => ?_) fun _ => ?_⟩
  · have z : V.int (d : Int) = V.int 0 := by simpa using z
    injection z with z
    omega
  refine ⟨_, rfl, _, rfl, _, rfl, _, rfl, n, d, by rw [abs_nat, abs_nat] <;> rfl, ?_⟩
  refine ⟨_, rfl, _, _, rfl, rfl, _, rfl, ite2 (fun z => ?_) fun _ => ?_⟩
  · have z : (d : Int) < 0 := by simpa using z
    omega
  refine ⟨_, rfl, _, rfl, _, _, rfl, rfl, divW_of (by omega) bg, _, rfl, x, _, dx, _, rfl, hx, fx.c_Share, fx.n_Share_over, by decide, ?_⟩
  refine ⟨_, rfl, _, rfl, _, _, rfl, rfl, divW_of (by omega) bg, _, rfl, x, _, dx, _, rfl, upd_same, fx.c_Share, fx.n_Share_under, by show 1 < 1000; decide, ?_⟩
  rw [upd_upd]
  have e1 : ((n : Int) / ((Nat.gcd n d : Nat) : Int)) = ((n / Nat.gcd n d : Nat) : Int) := (Int.natCast_ediv n _).symm
  have e2 : ((d : Int) / ((Nat.gcd n d : Nat) : Int)) = ((d / Nat.gcd n d : Nat) : Int) := (Int.natCast_ediv d _).symm
  show Q .non (upd H x (.ins (He.ga K "Share") dx [("over", .int ((n : Int) / ((Nat.gcd n d : Nat) : Int))), ("under", .int ((d : Int) / ((Nat.gcd n d : Nat) : Int)))]))
  rw [e1, e2]
  exact hq
/-- a new share -/
theorem mk_share {H : Hp} {n d : Nat} {Q : VK} {E : XK} (hd : 0 < d) (bn : Bd 7000 n) (bd : Bd 7000 d) (hq : ∀ x H', Same H H' → ShareAt K H' x (n / Nat.gcd n d) (d / Nat.gcd n d) → Q (.ref x) H') :
    ∀ x dx, H x = none → H dx = none → dx ≠ x → spShI K [.ref x, .int n, .int d] (upd (upd H dx (.own x)) x (.ins (He.ga K "Share") dx [])) (fun v H2 => v = .non ∧ Q (.ref x) H2) E :=
  fun x dx nx nd ne => ⟨x, dx, n, d, rfl, hd, bn, bd, upd_same, rfl, hq x _ (by rw [upd_upd]; exact same_upd (same_new nd) nx) ⟨dx, by rw [upd_upd]; exact upd_same⟩⟩
abbrev N_Share_add : List PySem.Str := ["self", "other"]
theorem sc_Share_add : FnScope N_Share_add ["self", "other"] (defScope s_Share_add) := ⟨rfl, rfl, rfl, by decide +kernel, rfl, by decide +kernel, by decide +kernel⟩

def spAdd (K : PySem.W.Frag) : Sp := fun vs H Q _ => ∃ (a b : Addr) (n d m e : Nat), vs = [.ref a, .ref b] ∧ ShareAt K H a n d ∧ ShareAt K H b m e ∧ 0 < d ∧ 0 < e ∧ Bd 2000 n ∧ Bd 2000 d ∧ Bd 2000 m ∧ Bd 2000 e ∧
  ∀ x H', Same H H' → ShareAt K H' x ((n * e + m * d) / Nat.gcd (n * e + m * d) (d * e)) ((d * e) / Nat.gcd (n * e + m * d) (d * e)) → Q (.ref x) H'
theorem ok_add (fx : Fx K mg) : Met P w K mg base CX0 4 (He.ga K "Share") "__add__" ["self", "other"] (spAdd K) := by
  have mak_Share : Mak P w K mg base CX0 2 "Share" (He.ga K "Share") ["self", "over", "under"] (spShI K) := ok_shI fx
  refine Met.of (p := ("Share", some "__add__")) (st := s_Share_add) fx.c_Share fx.m_Share_add fx.fd_Share_add sc_Share_add (fun _ _ _ _ _ _ _ us hl => match us, hl with | [_, _], _ => rfl) (fun vs H Q E h => by obtain ⟨a, b, n, d, m, e, rfl, _⟩ := h; rfl) fun f cdv A outer s H vs Q E hr h => ⟨_, PSs.nox (pss_one (ps_ret (pe_mk mak_Share hr (by decide) rfl pass0 (pa_cons (pe_op op_add (pe_op op_mulW (pe_fldK (K := K) rfl (pv 0) rfl) (pe_fldK (K := K) rfl (pv 1) rfl)) (pe_op op_mulW (pe_fldK (K := K) rfl (pv 1) rfl) (pe_fldK (K := K) rfl (pv 0) rfl))) (pa_cons (pe_op op_mulW (pe_fldK (K := K) rfl (pv 0) rfl) (pe_fldK (K := K) rfl (pv 1) rfl)) pa_nil))))), ?_⟩
  obtain ⟨a, b, n, d, m, e, rfl, ⟨dx, ha⟩, ⟨dy, hb⟩, hd, he, bn, bd, bm, be, hq⟩ := h
  have b8 : ∀ {i : Int}, Bd 2000 i → Bd 8000 i := fun h => h.mono (by decide)
  refine ⟨_, rfl, a, _, dx, _, _, rfl, ha, fx.c_Share, fx.n_Share_over, rfl, _, rfl, b, _, dy, _, _, rfl, hb, fx.c_Share, fx.n_Share_under, rfl, _, _, rfl, rfl, mulW_of (b8 bn) (b8 be), ?_⟩
  refine ⟨_, rfl, b, _, dy, _, _, rfl, hb, fx.c_Share, fx.n_Share_over, rfl, _, rfl, a, _, dx, _, _, rfl, ha, fx.c_Share, fx.n_Share_under, rfl, _, _, rfl, rfl, mulW_of (b8 bm) (b8 bd), ?_⟩
  refine ⟨_, _, rfl, rfl, _, rfl, a, _, dx, _, _, rfl, ha, fx.c_Share, fx.n_Share_under, rfl, _, rfl, b, _, dy, _, _, rfl, hb, fx.c_Share, fx.n_Share_under, rfl, _, _, rfl, rfl, mulW_of (b8 bd) (b8 be), ?_⟩
  have e1 : ((n : Int) * e + (m : Int) * d) = ((n * e + m * d : Nat) : Int) := by push_cast; rfl
  have e2 : ((d : Int) * e) = ((d * e : Nat) : Int) := by push_cast; rfl
  show ∀ x dx, H x = none → H dx = none → dx ≠ x → spShI K [.ref x, .int ((n : Int) * e + (m : Int) * d), .int ((d : Int) * e)] (upd (upd H dx (.own x)) x (.ins (He.ga K "Share") dx [])) (fun v H2 => v = .non ∧ Q (.ref x) H2) E0
  have h1 : Bd 7000 ((n : Int) * e + (m : Int) * d) := ((bn.mul be).add (bm.mul bd) (Nat.le_refl _)).mono (by decide)
  have h2 : Bd 7000 ((d : Int) * e) := (bd.mul be).mono (by decide)
  rw [e1] at h1
  rw [e2] at h2
  rw [e1, e2]
  exact mk_share (Nat.mul_pos hd he) h1 h2 hq
/-! ### the law's lowest terms -/
theorem mod_half {l r : Nat} (h0 : 0 < r) (h : r ≤ l) : 2 * (l % r) ≤ l := by
  have h1 := Nat.mod_lt l h0
  have h2 := Nat.div_add_mod l r
  have h3 : 1 ≤ l / r := (Nat.one_le_div_iff h0).mpr h
  have h4 : r * 1 ≤ r * (l / r) := Nat.mul_le_mul_left r h3
  omega
/-- after k steps of Euclid from (n, d) -/
def Euc (d g k l r : Nat) : Prop := Nat.gcd l r = g ∧ r * 2 ^ (k / 2) ≤ d ∧ (0 < k → l * 2 ^ ((k - 1) / 2) ≤ d ∧ (0 < r → r ≤ l))
theorem Euc.next {d g k l r : Nat} (h : Euc d g k l r) (hr : 0 < r) : Euc d g (k + 1) r (l % r) := by
  obtain ⟨h1, h2, h3⟩ := h
  refine ⟨?_, ?_, fun _ => ⟨by simpa using h2, fun _ => Nat.le_of_lt (Nat.mod_lt _ hr)⟩⟩
  · rw [← h1, Nat.gcd_comm l r, Nat.gcd_rec r l, Nat.gcd_comm]
  · rcases Nat.eq_zero_or_pos k with rfl | hk
    · have := Nat.mod_lt l hr
      simp at h2 ⊢
      omega
    · obtain ⟨h4, h5⟩ := h3 hk
      have e : (k + 1) / 2 = (k - 1) / 2 + 1 := by omega
      have h6 := mod_half hr (h5 hr)
      rw [e, Nat.pow_succ]
      calc l % r * (2 ^ ((k - 1) / 2) * 2) = 2 * (l % r) * 2 ^ ((k - 1) / 2) := by rw [Nat.mul_comm (2 ^ _) 2, ← Nat.mul_assoc, Nat.mul_comm (l % r) 2]
        _ ≤ l * 2 ^ ((k - 1) / 2) := Nat.mul_le_mul_right _ h6
        _ ≤ d := h4
theorem Euc.end {d g k l r : Nat} (h : Euc d g k l r) (hk : d < 2 ^ (k / 2)) : r = 0 := by
  rcases Nat.eq_zero_or_pos r with e | hr
  · exact e
  · have h2 := h.2.1
    have : 1 * 2 ^ (k / 2) ≤ r * 2 ^ (k / 2) := Nat.mul_le_mul_right _ hr
    omega
abbrev N_law_lowest : List PySem.Str := ["_law_over", "_law_under", "_law_left", "_law_right", "_law_step"]
theorem sc_law_lowest : FnScope N_law_lowest ["_law_over", "_law_under"] (defScope s_law_lowest) := ⟨rfl, rfl, rfl, by decide +kernel, rfl, by decide +kernel, by decide +kernel⟩

def spLow : Sp := fun vs H Q _ => ∃ n d : Nat, vs = [.int n, .int d] ∧ 0 < d ∧ Bd 7000 d ∧ ∀ p, H p = none → Q (.ref p) (upd H p (.tup [.int ((n / Nat.gcd n d : Nat) : Int), .int ((d / Nat.gcd n d : Nat) : Int)]))
theorem ok_low (fx : Fx K mg) : Cal P w K mg base CX0 1 "_law_lowest" ["_law_over", "_law_under"] spLow := by
  refine Cal.of (st := s_law_lowest) fx.g_law_lowest fx.fd_law_lowest sc_law_lowest (fun _ _ _ _ _ _ _ us hl => match us, hl with | [_, _], _ => rfl) (fun vs H Q E h => by obtain ⟨a, b, rfl, _⟩ := h; rfl) fun f cdv A outer s H vs Q E hr h => ⟨_, PSs.nox (pss_cons (ps_set (i := 2) sc_law_lowest.nd rfl (.inl rfl) (pe_callB call_abs rfl fx.f_abs boot_abs (pa_cons (pv 0) pa_nil))) (pss_cons (ps_set (i := 3) sc_law_lowest.nd rfl (.inl rfl) (pv 1)) (pss_cons (ps_for PassesOwn.never rfl (pi_range1 rfl fx.f_range (pa_cons (pe_op op_add (pe_op op_mulW pe_int (pe_bits (pv 1))) pe_int) pa_nil)) (pg_name (i := 4) sc_law_lowest.nd rfl (.inl rfl)) (pss_cons (ps_if (pt_cmpR op_eq (pv 3) pe_int (nomark _)) (pss_one ps_break) pss_nil) (pss_one (ps_par (i := 2) (j := 3) rfl sc_law_lowest.nd rfl rfl (by decide) rfl rfl (pa_cons (pv 3) (pa_cons (pe_op op_mod (pe_callTy call_int1 rfl fx.f_int boot_int (pa_cons (pv 2) pa_nil)) (pv 3)) pa_nil)) rfl)))) (pss_one (ps_ret (pe_tup (pa_cons (pe_op op_fdivW (pv 0) (pv 2)) (pa_cons (pe_op op_fdivW (pv 1) (pv 2)) pa_nil)))))))), ?_⟩
  obtain ⟨n, d, rfl, hd, bd, hq⟩ := h
  have hb : Builtin.Int.intBits (d : Int) = d.log2 + 1 := by
    unfold Builtin.Int.intBits
    rw [if_neg (by simp; omega)]
    rfl
  have hl : d.log2 < 7000 := PySem.Flt.log2_lt_of (by decide) bd
  have hdl : d < 2 ^ (d.log2 + 1) := Nat.lt_log2_self
  have hN : (2 * ((Builtin.Int.intBits (d : Int) : Nat) : Int) + 2) = ((2 * (d.log2 + 1) + 2 : Nat) : Int) := by rw [hb]; push_cast; rfl
  have fin : ∀ l : Nat, l = Nat.gcd n d → ∀ (o1 o2 : Option V), ∀ Q', (∀ v H', Q v H' → Q' v H') → (tRet (tTup (tCons (tOp (rI CDivW fun i j => .int (i / j)) (tVar 0) (tVar 2)) (tCons (tOp (rI CDivW fun i j => .int (i / j)) (tVar 1) (tVar 2)) tNil)))) { nx := fun _ H' => Q' .non H', rt := Q' } [some (.int n), some (.int d), some (.int l), o1, o2] H := by
    rintro l rfl o1 o2 Q' hQ
    have hg : 0 < Nat.gcd n d := Nat.gcd_pos_of_pos_right _ hd
    have bg : Bd 8000 ((Nat.gcd n d : Nat) : Int) := (bd.le (by omega) (by have := Nat.gcd_le_right n hd; omega)).mono (by decide)
    refine ⟨_, rfl, _, rfl, _, _, rfl, rfl, divW_of (by omega) bg, _, rfl, _, rfl, _, _, rfl, rfl, divW_of (by omega) bg, by show 2 ≤ sizeLine; decide, fun p hp => hQ _ _ ?_⟩
    have e1 : ((n : Int) / ((Nat.gcd n d : Nat) : Int)) = ((n / Nat.gcd n d : Nat) : Int) := (Int.natCast_ediv n _).symm
    have e2 : ((d : Int) / ((Nat.gcd n d : Nat) : Int)) = ((d / Nat.gcd n d : Nat) : Int) := (Int.natCast_ediv d _).symm
    show Q (.ref p) (upd H p (.tup [.int ((n : Int) / ((Nat.gcd n d : Nat) : Int)), .int ((d : Int) / ((Nat.gcd n d : Nat) : Int))]))
    rw [e1, e2]
    exact hq p hp
  refine ⟨_, rfl, n, rfl, ?_⟩
  rw [abs_nat]
  refine ⟨_, rfl, _, rfl, _, rfl, _, _, rfl, rfl, mulW_of (by show (2 : Int).natAbs < 2 ^ 8000; exact Nat.lt_of_lt_of_le (by decide : 2 < 2 ^ 2) (Nat.pow_le_pow_right (by decide) (by decide))) ?_, _, _, rfl, rfl, ?_⟩
  · rw [hb]
    show ((d.log2 + 1 : Nat) : Int).natAbs < 2 ^ 8000
    exact Nat.lt_of_lt_of_le (show d.log2 + 1 < 2 ^ 13 from (by decide : (2 : Nat) ^ 13 = 8192) ▸ (by omega)) (Nat.pow_le_pow_right (by decide) (by decide))
  have hj : ((2 : Int) * ((Builtin.Int.intBits (d : Int) : Nat) : Int) + 2).toNat = 2 * (d.log2 + 1) + 2 := by
    rw [hN]
    exact Int.toNat_natCast _
  refine ⟨_, rfl, by omega, by omega, ?_⟩
  refine for_range (n := ((2 : Int) * ((Builtin.Int.intBits (d : Int) : Nat) : Int) + 2).toNat) (fun k σ H' => ∃ l r : Nat, ∃ o, H' = H ∧ σ = [some (.int n), some (.int d), some (.int l), some (.int r), o] ∧ Euc d (Nat.gcd n d) k l r)
    ⟨n, d, none, rfl, rfl, rfl, by simp, fun h => absurd h (Nat.lt_irrefl _)⟩ ?_ ?_
  · rintro k σ H' hk ⟨l, r, o, rfl, rfl, he⟩
    refine ⟨_, rfl, rfl, _, rfl, ite2 (fun z => ?_) fun z => ?_⟩
    · have z : V.int (r : Int) = V.int 0 := by simpa using z
      injection z with z
      have z : r = 0 := by omega
      subst z
      exact fin l (by rw [← he.1, Nat.gcd_zero_right]) _ _ Q fun v H' h => h
    · have z : 0 < r := by
        rcases Nat.eq_zero_or_pos r with e | e
        · subst e
          exact absurd (decide_eq_true rfl) z
        · exact e
      refine ⟨_, rfl, _, rfl, .inl ⟨_, rfl, _, rfl, _, _, rfl, rfl, by omega, _, _, rfl, ?_⟩⟩
      exact ⟨r, l % r, _, rfl, rfl, he.next z⟩
  · rintro σ H' ⟨l, r, o, rfl, rfl, he⟩
    rw [hj] at he
    have z : r = 0 := he.end (by rw [show (2 * (d.log2 + 1) + 2) / 2 = d.log2 + 1 + 1 by omega, Nat.pow_succ]; omega)
    subst z
    exact fin l (by rw [← he.1, Nat.gcd_zero_right]) _ _ Q fun v H' h => h
end Km
end

section
set_option Elab.async false
set_option linter.all false
set_option maxRecDepth 100000
set_option maxHeartbeats 4000000
/-! Kinds of values, the law's stream of numbers. -/
namespace Km
open PySem PySem.Spec PyProof.Rows L2
variable {P : Program} {w : World} {K : PySem.W.Frag} {mg : Str → Option Value} {base : Heap}
theorem kit_int_int : PySem.W.kitOne K (.type "int") (.type "int") = some true := kit_ty (by decide +kernel)
theorem kit_int_bool : PySem.W.kitOne K (.type "int") (.type "bool") = some false := kit_ty (by decide +kernel)
theorem kit_tup_tup : PySem.W.kitOne K (.type "tuple") (.type "tuple") = some true := kit_ty (by decide +kernel)
theorem kit_self (C : Value) : PySem.W.kitOne K C C = some true := by
  unfold PySem.W.kitOne
  rw [if_pos (by simp)]
theorem ty_share {H : Hp} {a : Addr} {n d : Nat} (fx : Fx K mg) (h : ShareAt K H a n d) : TyX K H (.ref a) (.ref (He.ga K "Share")) := by
  obtain ⟨dx, h⟩ := h
  obtain ⟨_, ⟨hs, _⟩, hn, htk, _⟩ := fx.excC
  exact .base (.ins h fx.c_Share (clsB_ok hs).1 hn htk (clsB_ok hs).2)
theorem ty_marking {H : Hp} {a dx : Addr} {fs : List (Str × V)} (fx : Fx K mg) (h : H a = some (.ins (He.ga K "Marking") dx fs)) : TyX K H (.ref a) (.ref (He.ga K "Marking")) := by
  obtain ⟨_, ⟨_, hs⟩, hn, htk, _⟩ := fx.excC
  exact .base (.ins h fx.c_Marking (clsB_ok hs).1 hn htk (clsB_ok hs).2)
def spInt : Sp := fun vs H Q _ => ∃ i : Int, vs = [.int i] ∧ Q (.bl true) H
abbrev N_is_integer : List PySem.Str := ["value"]
theorem sc_is_integer : FnScope N_is_integer ["value"] (defScope s_is_integer) := ⟨rfl, rfl, rfl, by decide +kernel, rfl, by decide +kernel, by decide +kernel⟩

theorem ok_isInt (fx : Fx K mg) : Cal P w K mg base CX0 1 "_is_integer" ["value"] spInt := by
  refine Cal.of (st := s_is_integer) fx.g_is_integer fx.fd_is_integer sc_is_integer (fun _ _ _ _ _ _ _ us hl => match us, hl with | [_], _ => rfl) (fun vs H Q E h => by obtain ⟨a, rfl, _⟩ := h; rfl) fun f cdv A outer s H vs Q E hr h => ⟨_, PSs.nox (pss_one (ps_ret (pe_and (pe_callB (call_isiK (K := K) rfl) rfl fx.f_isinstance boot_isinstance (pa_cons (pv 0) (pa_cons (pe_bltn (v := .ty "int") rfl fx.f_int boot_int rfl) pa_nil))) (pe_one (pe_not (pe_callB (call_isiK (K := K) rfl) rfl fx.f_isinstance boot_isinstance (pa_cons (pv 0) (pa_cons (pe_bltn (v := .ty "bool") rfl fx.f_bool boot_bool rfl) pa_nil)))))))), ?_⟩
  obtain ⟨i, rfl, hq⟩ := h
  exact ⟨_, rfl, _, _, _, _, true, rfl, .ty "int", .base (.int i), kit_int_int, true, rfl, iteT ⟨_, rfl, _, _, _, _, false, rfl, .ty "bool", .base (.int i), kit_int_bool, false, rfl, hq⟩⟩
abbrev N_law_is_whole : List PySem.Str := ["_law_told"]
theorem sc_law_is_whole : FnScope N_law_is_whole ["_law_told"] (defScope s_law_is_whole) := ⟨rfl, rfl, rfl, by decide +kernel, rfl, by decide +kernel, by decide +kernel⟩

theorem ok_isWhole (fx : Fx K mg) : Cal P w K mg base CX0 1 "_law_is_whole" ["_law_told"] spInt := by
  refine Cal.of (st := s_law_is_whole) fx.g_law_is_whole fx.fd_law_is_whole sc_law_is_whole (fun _ _ _ _ _ _ _ us hl => match us, hl with | [_], _ => rfl) (fun vs H Q E h => by obtain ⟨a, rfl, _⟩ := h; rfl) fun f cdv A outer s H vs Q E hr h => ⟨_, PSs.nox (pss_one (ps_ret (pe_and (pe_callB (call_isiK (K := K) rfl) rfl fx.f_isinstance boot_isinstance (pa_cons (pv 0) (pa_cons (pe_bltn (v := .ty "int") rfl fx.f_int boot_int rfl) pa_nil))) (pe_one (pe_not (pe_callB (call_isiK (K := K) rfl) rfl fx.f_isinstance boot_isinstance (pa_cons (pv 0) (pa_cons (pe_bltn (v := .ty "bool") rfl fx.f_bool boot_bool rfl) pa_nil)))))))), ?_⟩
  obtain ⟨i, rfl, hq⟩ := h
  exact ⟨_, rfl, _, _, _, _, true, rfl, .ty "int", .base (.int i), kit_int_int, true, rfl, iteT ⟨_, rfl, _, _, _, _, false, rfl, .ty "bool", .base (.int i), kit_int_bool, false, rfl, hq⟩⟩
def spIsSh (K : PySem.W.Frag) : Sp := fun vs H Q _ => ∃ (a : Addr) (n d : Nat), vs = [.ref a, .int n, .int d] ∧ ShareAt K H a (n / Nat.gcd n d) (d / Nat.gcd n d) ∧ 0 < d ∧ Bd 7000 d ∧ ∀ H', Same H H' → Q (.bl true) H'
abbrev N_law_is_share : List PySem.Str := ["_law_told", "_law_over", "_law_under", "_law_due"]
theorem sc_law_is_share : FnScope N_law_is_share ["_law_told", "_law_over", "_law_under"] (defScope s_law_is_share) := ⟨rfl, rfl, rfl, by decide +kernel, rfl, by decide +kernel, by decide +kernel⟩

theorem ok_isShare (fx : Fx K mg) : Cal P w K mg base CX0 2 "_law_is_share" ["_law_told", "_law_over", "_law_under"] (spIsSh K) := by
  have cal_law_is_whole : Cal P w K mg base CX0 1 "_law_is_whole" ["_law_told"] spInt := ok_isWhole fx
  have cal_law_lowest : Cal P w K mg base CX0 1 "_law_lowest" ["_law_over", "_law_under"] spLow := ok_low fx
  refine Cal.of (st := s_law_is_share) fx.g_law_is_share fx.fd_law_is_share sc_law_is_share (fun _ _ _ _ _ _ _ us hl => match us, hl with | [_, _, _], _ => rfl) (fun vs H Q E h => by obtain ⟨a, n, d, rfl, _⟩ := h; rfl) fun f cdv A outer s H vs Q E hr h => ⟨_, PSs.nox (pss_cons (ps_if (PW.pt (pw_or (pt_not (pt_val (pe_callB (call_isiK (K := K) rfl) rfl fx.f_isinstance boot_isinstance (pa_cons (pv 0) (pa_cons (pe_glob (v := .ref (He.ga K "Share")) rfl fx.g_Share rfl) pa_nil))))) (pw_or (pt_not (pt_val (pe_c cal_law_is_whole hr (by decide) rfl pass0 (pa_cons (pe_fldK (K := K) rfl (pv 0) rfl) pa_nil)))) (pw_or1 (pt_not (pt_val (pe_c cal_law_is_whole hr (by decide) rfl pass0 (pa_cons (pe_fldK (K := K) rfl (pv 0) rfl) pa_nil)))))))) (pss_one (ps_ret pe_bl)) pss_nil) (pss_cons (ps_set (i := 3) sc_law_is_share.nd rfl (.inl rfl) (pe_c cal_law_lowest hr (by decide) rfl pass0 (pa_cons (pv 1) (pa_cons (pv 2) pa_nil)))) (pss_one (ps_ret (pe_and (pe_cmpR op_eq (pe_fldK (K := K) rfl (pv 0) rfl) (pe_ix (ix_tupK (K := K) rfl) (pv 3) pe_int (fun _ _ => rfl)) (nomark _)) (pe_one (pe_cmpR op_eq (pe_fldK (K := K) rfl (pv 0) rfl) (pe_ix (ix_tupK (K := K) rfl) (pv 3) pe_int (fun _ _ => rfl)) (nomark _)))))))), ?_⟩
  obtain ⟨a, n, d, rfl, hsh, hd, bd, hq⟩ := h
  have hsh0 := hsh
  obtain ⟨dx, ha⟩ := hsh
  refine ⟨_, rfl, _, _, _, _, true, rfl, .own _, ty_share fx hsh0, kit_self _, true, rfl, iteF ?_⟩
  refine ⟨_, rfl, a, _, dx, _, _, rfl, ha, fx.c_Share, fx.n_Share_over, rfl, _, rfl, true, rfl, iteF ?_⟩
  refine ⟨_, rfl, a, _, dx, _, _, rfl, ha, fx.c_Share, fx.n_Share_under, rfl, _, rfl, true, rfl, iteF ?_⟩
  refine ⟨_, rfl, _, rfl, n, d, rfl, hd, bd, fun p hp => ?_⟩
  have ha' := upd_at (o := .tup [.int ((n / Nat.gcd n d : Nat) : Int), .int ((d / Nat.gcd n d : Nat) : Int)]) ha hp
  refine ⟨_, rfl, a, _, dx, _, _, rfl, ha', fx.c_Share, fx.n_Share_over, rfl, _, rfl, p, _, _, _, rfl, rfl, .inl (.inl upd_same), rfl, rfl, true, ?_, iteT ?_⟩
  · exact congrArg V.bl (decide_eq_true rfl)
  refine ⟨_, rfl, a, _, dx, _, _, rfl, ha', fx.c_Share, fx.n_Share_under, rfl, _, rfl, p, _, _, _, rfl, rfl, .inl (.inl upd_same), rfl, rfl, ?_⟩
  have := hq _ (same_new (o := .tup [.int ((n / Nat.gcd n d : Nat) : Int), .int ((d / Nat.gcd n d : Nat) : Int)]) hp)
  show Q (.bl (decide (V.int ((d / Nat.gcd n d : Nat) : Int) = V.int ((d / Nat.gcd n d : Nat) : Int)))) _
  rw [decide_eq_true rfl]
  exact this
/-! ### the stream -/
def St3 (p : Addr) (H : Hp) : Prop := ∃ x y z : Int, H p = some (.lst [.int x, .int y, .int z])
def spStr (K : PySem.W.Frag) : Sp := fun vs H Q _ => ∃ (a : Addr) (ns : List Int) (t : Nat), vs = [.ref a, .int t] ∧ SqL K H a (ns.map V.int) ∧ ns.length < 64 ∧ t ≤ 100 ∧ ∀ p H', H p = none → Same H H' → St3 p H' → Q (.ref p) H'
abbrev N_law_stream : List PySem.Str := ["_law_script", "_law_at", "_law_cell"]
theorem sc_law_stream : FnScope N_law_stream ["_law_script", "_law_at"] (defScope s_law_stream) := ⟨rfl, rfl, rfl, by decide +kernel, rfl, by decide +kernel, by decide +kernel⟩

theorem ok_stream (fx : Fx K mg) : Cal P w K mg base CX0 1 "_law_stream" ["_law_script", "_law_at"] (spStr K) := by
  refine Cal.of (st := s_law_stream) fx.g_law_stream fx.fd_law_stream sc_law_stream (fun _ _ _ _ _ _ _ us hl => match us, hl with | [_, _], _ => rfl) (fun vs H Q E h => by obtain ⟨a, ns, t, rfl, _⟩ := h; rfl) fun f cdv A outer s H vs Q E hr h => ⟨_, PSs.nox (pss_cons (ps_set (i := 2) sc_law_stream.nd rfl (.inl rfl) (pe_op op_add (pe_op op_mul pe_int (pv 1)) pe_int)) (pss_cons (ps_if (pt_cmpR op_gt (pe_callB (call_lenK (K := K) rfl) rfl fx.f_len boot_len (pa_cons (pv 0) pa_nil)) pe_int (nomark _)) (pss_one (ps_set (i := 2) sc_law_stream.nd rfl (.inl rfl) (pe_op op_add (pe_callTy call_int1 rfl fx.f_int boot_int (pa_cons (pe_ix (ix_listK (K := K) rfl) (pv 0) (pe_op op_mod (pv 1) (pe_callB (call_lenK (K := K) rfl) rfl fx.f_len boot_len (pa_cons (pv 0) pa_nil))) (fun _ _ => rfl)) pa_nil)) (pe_op op_mul (pe_op op_fdiv (pv 1) (pe_callB (call_lenK (K := K) rfl) rfl fx.f_len boot_len (pa_cons (pv 0) pa_nil))) pe_int)))) pss_nil) (pss_cons (ps_if (pt_cmpR op_lt (pv 2) pe_int (nomark _)) (pss_one (ps_set (i := 2) sc_law_stream.nd rfl (.inl rfl) (pe_op op_sub pe_int (pv 2)))) pss_nil) (pss_cons (ps_if (pt_cmpR op_ge (pv 2) (pe_op op_pow pe_int pe_int) (nomark _)) (pss_one (ps_ret (pe_lst (pa_cons (pv 2) (pa_cons (pe_op op_mod (pe_callTy call_int1 rfl fx.f_int boot_int (pa_cons (pv 2) pa_nil)) pe_int) (pa_cons pe_int pa_nil)))))) pss_nil) (pss_one (ps_ret (pe_lst (pa_cons pe_int (pa_cons (pe_op op_mod (pe_callTy call_int1 rfl fx.f_int boot_int (pa_cons (pv 2) pa_nil)) pe_int) (pa_cons pe_int pa_nil)))))))))), ?_⟩
  obtain ⟨a, ns, t, rfl, hs, hl, ht, hq⟩ := h
  have hlen : (ns.map V.int).length = ns.length := List.length_map ..
  have fin : ∀ (x y z : Int), [V.int x, V.int y, V.int z].length ≤ sizeLine ∧ ∀ p, H p = none → Q (.ref p) (upd H p (.lst [.int x, .int y, .int z])) := fun x y z =>
    ⟨by show 3 ≤ sizeLine; decide, fun p hp => hq p _ hp (same_new hp) ⟨x, y, z, upd_same⟩⟩
  refine ⟨_, rfl, _, _, rfl, rfl, .inl (by decide), _, _, rfl, rfl, ?_⟩
  refine ⟨_, rfl, _, _, rfl, .inl ⟨_, hs, rfl⟩, _, _, rfl, rfl, _, rfl, ite2 (fun z => ?_) fun z => ?_⟩
  all_goals try
    (have z : (0 : Int) < ((ns.map V.int).length : Int) := by simpa using z
     rw [hlen] at z
     have hlt : t % ns.length < ns.length := Nat.mod_lt _ (by omega)
     have e : (ns.map V.int)[t % ns.length]? = some (V.int ns[t % ns.length]) := by rw [List.getElem?_map, List.getElem?_eq_getElem hlt] <;> rfl
     have e2 : atI (ns.map V.int) ((t : Int) % (((ns.map V.int).length : Nat) : Int)) = some (V.int ns[t % ns.length]) := by
       rw [hlen]
       exact atI_nat e
     refine ⟨_, rfl, _, rfl, _, rfl, _, _, rfl, .inl ⟨_, hs, rfl⟩, _, _, rfl, rfl, by rw [hlen]; exact z, a, _, _, V.int ns[t % ns.length], rfl, rfl, hs, e2, .inl ⟨_, rfl, _, rfl, _, rfl, _, _, rfl, .inl ⟨_, hs, rfl⟩, _, _, rfl, rfl, ⟨by rw [hlen]; exact z, by rw [hlen]; omega⟩, _, _, rfl, rfl, .inr (by decide), _, _, rfl, rfl, ?_⟩⟩)
  all_goals refine ⟨_, rfl, _, _, rfl, rfl, _, rfl, ite2 (fun _ => ?_) fun _ => ?_⟩
  all_goals first
    | refine ⟨_, rfl, _, _, rfl, rfl, ⟨by decide, by decide, by decide⟩, _, _, rfl, rfl, _, rfl, ite2 (fun _ => ?_) fun _ => ?_⟩
    | (refine ⟨_, rfl, _, _, rfl, rfl, ?_⟩
       refine ⟨_, rfl, _, _, rfl, rfl, ⟨by decide, by decide, by decide⟩, _, _, rfl, rfl, _, rfl, ite2 (fun _ => ?_) fun _ => ?_⟩)
  all_goals first
    | exact ⟨_, rfl, _, rfl, .inl ⟨_, rfl, _, _, rfl, rfl, (by show (0 : Int) < _; decide), fin _ _ _⟩⟩
    | exact ⟨_, rfl, .inl ⟨_, rfl, _, _, rfl, rfl, (by show (0 : Int) < _; decide), fin _ _ _⟩⟩
def spDraw : Sp := fun vs H Q _ => ∃ (p : Addr) (m : Int), vs = [.ref p, .int m] ∧ 0 < m ∧ m < 1073741824 ∧ St3 p H ∧ ∀ d H', 0 ≤ d → d < m → St3 p H' → Sm p H H' → Q (.int d) H'
abbrev N_law_draw : List PySem.Str := ["_law_stream_here", "_law_many", "_law_digit", "_law_second"]
theorem sc_law_draw : FnScope N_law_draw ["_law_stream_here", "_law_many"] (defScope s_law_draw) := ⟨rfl, rfl, rfl, by decide +kernel, rfl, by decide +kernel, by decide +kernel⟩

theorem ok_draw (fx : Fx K mg) : Cal P w K mg base CX0 1 "_law_draw" ["_law_stream_here", "_law_many"] spDraw := by
  refine Cal.of (st := s_law_draw) fx.g_law_draw fx.fd_law_draw sc_law_draw (fun _ _ _ _ _ _ _ us hl => match us, hl with | [_, _], _ => rfl) (fun vs H Q E h => by obtain ⟨a, m, rfl, _⟩ := h; rfl) fun f cdv A outer s H vs Q E hr h => ⟨_, PSs.nox (pss_cons (ps_if (pt_cmpR op_gt (pe_ix (ix_listK (K := K) rfl) (pv 0) pe_int (fun _ _ => rfl)) pe_int (nomark _)) (pss_cons (ps_set (i := 2) sc_law_draw.nd rfl (.inl rfl) (pe_op op_mod (pe_callTy call_int1 rfl fx.f_int boot_int (pa_cons (pe_ix (ix_listK (K := K) rfl) (pv 0) pe_int (fun _ _ => rfl)) pa_nil)) (pv 1))) (pss_cons (ps_asg (pe_op op_fdiv (pe_ix (ix_listK (K := K) rfl) (pv 0) pe_int (fun _ _ => rfl)) (pv 1)) (pg_sub (pv 0) pe_int set_list)) (pss_one (ps_ret (pv 2))))) pss_nil) (pss_cons (ps_asg (pe_op op_add (pe_ix (ix_listK (K := K) rfl) (pv 0) pe_int (fun _ _ => rfl)) pe_int) (pg_sub (pv 0) pe_int set_list)) (pss_cons (ps_asg (pe_op op_mod (pe_callTy call_int1 rfl fx.f_int boot_int (pa_cons (pe_op op_add (pe_op op_add (pe_op op_mul (pe_ix (ix_listK (K := K) rfl) (pv 0) pe_int (fun _ _ => rfl)) pe_int) (pe_op op_mul (pe_ix (ix_listK (K := K) rfl) (pv 0) pe_int (fun _ _ => rfl)) pe_int)) pe_int) pa_nil)) pe_int) (pg_sub (pv 0) pe_int set_list)) (pss_cons (ps_set (i := 3) sc_law_draw.nd rfl (.inl rfl) (pe_op op_mod (pe_callTy call_int1 rfl fx.f_int boot_int (pa_cons (pe_op op_add (pe_op op_mul (pe_ix (ix_listK (K := K) rfl) (pv 0) pe_int (fun _ _ => rfl)) pe_int) (pe_ix (ix_listK (K := K) rfl) (pv 0) pe_int (fun _ _ => rfl))) pa_nil)) pe_int)) (pss_one (ps_ret (pe_op op_mod (pe_callTy call_int1 rfl fx.f_int boot_int (pa_cons (pv 3) pa_nil)) (pv 1)))))))), ?_⟩
  obtain ⟨p, m, rfl, hm, hm2, ⟨x, y, z, hp⟩, hq⟩ := h
  have g0 : ∀ {H : Hp} {x y z : Int}, H p = some (.lst [.int x, .int y, .int z]) → SqL K H p [.int x, .int y, .int z] := fun h => .inl (.inl h)
  refine ⟨_, rfl, p, _, _, _, rfl, rfl, g0 hp, rfl, _, _, rfl, rfl, _, rfl, ite2 (fun zz => ?_) fun zz => ?_⟩
  · refine ⟨_, rfl, p, _, _, _, rfl, rfl, g0 hp, rfl, .inl ⟨_, rfl, _, rfl, _, _, rfl, rfl, hm, ?_⟩⟩
    refine ⟨_, rfl, p, _, _, _, rfl, rfl, g0 hp, rfl, _, rfl, _, _, rfl, rfl, ⟨hm, hm2⟩, _, rfl, p, _, _, _, rfl, rfl, hp, rfl, ?_⟩
    exact ⟨_, rfl, hq _ _ (Int.emod_nonneg _ (by omega)) (Int.emod_lt_of_pos _ hm) ⟨_, _, _, upd_same⟩ (Sm.at (Sm.refl p H))⟩
  · refine ⟨_, rfl, p, _, _, _, rfl, rfl, g0 hp, rfl, _, _, rfl, rfl, _, rfl, p, _, _, _, rfl, rfl, hp, rfl, ?_⟩
    refine ⟨_, rfl, p, _, _, _, rfl, rfl, g0 upd_same, rfl, _, _, rfl, rfl, .inr (by decide), _, rfl, p, _, _, _, rfl, rfl, g0 upd_same, rfl, _, _, rfl, rfl, .inr (by decide), _, _, rfl, rfl, _, _, rfl, rfl, .inl ⟨_, rfl, _, _, rfl, rfl, (by show (0 : Int) < _; decide), ?_⟩⟩
    refine ⟨_, rfl, p, _, _, _, rfl, rfl, upd_same, rfl, ?_⟩
    refine ⟨_, rfl, p, _, _, _, rfl, rfl, g0 upd_same, rfl, _, _, rfl, rfl, .inr (by decide), _, rfl, p, _, _, _, rfl, rfl, g0 upd_same, rfl, _, _, rfl, rfl, .inl ⟨_, rfl, _, _, rfl, rfl, (by show (0 : Int) < _; decide), ?_⟩⟩
    exact ⟨_, rfl, .inl ⟨_, rfl, _, rfl, _, _, rfl, rfl, hm, hq _ _ (Int.emod_nonneg _ (by omega)) (Int.emod_lt_of_pos _ hm) ⟨_, _, _, upd_same⟩ (Sm.at (Sm.at (Sm.refl p H)))⟩⟩
def spLarge : Sp := fun vs H Q _ => ∃ (p : Addr) (m : Int), vs = [.ref p, .int m] ∧ 0 < m ∧ St3 p H ∧ ∀ d H', 0 ≤ d → d < m → St3 p H' → Sm p H H' → Q (.int d) H'
abbrev N_law_large : List PySem.Str := ["_law_stream_here", "_law_top_here", "_law_number", "_law_step"]
theorem sc_law_large : FnScope N_law_large ["_law_stream_here", "_law_top_here"] (defScope s_law_large) := ⟨rfl, rfl, rfl, by decide +kernel, rfl, by decide +kernel, by decide +kernel⟩

theorem ok_large (fx : Fx K mg) : Cal P w K mg base CX0 2 "_law_large" ["_law_stream_here", "_law_top_here"] spLarge := by
  have cal_law_draw : Cal P w K mg base CX0 1 "_law_draw" ["_law_stream_here", "_law_many"] spDraw := ok_draw fx
  refine Cal.of (st := s_law_large) fx.g_law_large fx.fd_law_large sc_law_large (fun _ _ _ _ _ _ _ us hl => match us, hl with | [_, _], _ => rfl) (fun vs H Q E h => by obtain ⟨a, m, rfl, _⟩ := h; rfl) fun f cdv A outer s H vs Q E hr h => ⟨_, PSs.nox (pss_cons (ps_set (i := 2) sc_law_large.nd rfl (.inl rfl) pe_int) (pss_cons (ps_for PassesOwn.never rfl (pi_range1 rfl fx.f_range (pa_cons pe_int pa_nil)) (pg_name (i := 3) sc_law_large.nd rfl (.inl rfl)) (pss_one (ps_set (i := 2) sc_law_large.nd rfl (.inl rfl) (pe_op op_add (pe_op op_mul (pv 2) pe_int) (pe_c cal_law_draw hr (by decide) rfl pass0 (pa_cons (pv 0) (pa_cons pe_int pa_nil))))))) (pss_one (ps_ret (pe_op op_mod (pe_callTy call_int1 rfl fx.f_int boot_int (pa_cons (pv 2) pa_nil)) (pv 1)))))), ?_⟩
  obtain ⟨p, m, rfl, hm, hp, hq⟩ := h
  refine ⟨5, rfl, by decide, by decide, for_range (n := 5) (fun i σ H' => ∃ (c : Int) (o : Option V), σ = [some (.ref p), some (.int m), some (.int c), o] ∧ St3 p H' ∧ Sm p H H') ⟨0, none, rfl, hp, Sm.refl p H⟩ ?_ ?_⟩
  · rintro i σ H' hi ⟨c, o, rfl, h3, hs⟩
    refine ⟨_, rfl, _, _, rfl, rfl, .inr (by decide), _, rfl, p, _, rfl, by decide, by decide, h3, fun d H2 h0 h1 h4 h5 => ⟨_, _, rfl, rfl, _, _, rfl, h4, hs.trans h5⟩⟩
  · rintro σ H' ⟨c, o, rfl, h3, hs⟩
    exact ⟨_, rfl, .inl ⟨_, rfl, _, rfl, _, _, rfl, rfl, hm, hq _ _ (Int.emod_nonneg _ (by omega)) (Int.emod_lt_of_pos _ hm) h3 hs⟩⟩
def spTop : Sp := fun vs H Q _ => ∃ (p : Addr) (m : Int), vs = [.ref p, .int m] ∧ 0 ≤ m ∧ m ≤ 1000 ∧ St3 p H ∧ ∀ d H', 1 ≤ d → d ≤ 10 ^ 40 → St3 p H' → Sm p H H' → Q (.int d) H'
abbrev N_law_top : List PySem.Str := ["_law_stream_here", "_law_top_here"]
theorem sc_law_top : FnScope N_law_top ["_law_stream_here", "_law_top_here"] (defScope s_law_top) := ⟨rfl, rfl, rfl, by decide +kernel, rfl, by decide +kernel, by decide +kernel⟩

theorem ok_top (fx : Fx K mg) : Cal P w K mg base CX0 3 "_law_top" ["_law_stream_here", "_law_top_here"] spTop := by
  have cal_law_draw : Cal P w K mg base CX0 1 "_law_draw" ["_law_stream_here", "_law_many"] spDraw := ok_draw fx
  have cal_law_large : Cal P w K mg base CX0 2 "_law_large" ["_law_stream_here", "_law_top_here"] spLarge := ok_large fx
  refine Cal.of (st := s_law_top) fx.g_law_top fx.fd_law_top sc_law_top (fun _ _ _ _ _ _ _ us hl => match us, hl with | [_, _], _ => rfl) (fun vs H Q E h => by obtain ⟨a, m, rfl, _⟩ := h; rfl) fun f cdv A outer s H vs Q E hr h => ⟨_, PSs.nox (pss_cons (ps_if (pt_cmpR op_eq (pv 1) pe_int (nomark _)) (pss_one (ps_ret (pe_op op_add pe_int (pe_c cal_law_large hr (by decide) rfl pass0 (pa_cons (pv 0) (pa_cons (pe_op op_sub (pe_op op_pow pe_int pe_int) pe_int) pa_nil)))))) pss_nil) (pss_one (ps_ret (pe_op op_add pe_int (pe_c cal_law_draw hr (by decide) rfl pass0 (pa_cons (pv 0) (pa_cons (pv 1) pa_nil))))))), ?_⟩
  obtain ⟨p, m, rfl, hm, hm2, hp, hq⟩ := h
  refine ⟨_, rfl, rfl, _, rfl, ite2 (fun zz => ?_) fun zz => ?_⟩
  · refine ⟨_, rfl, _, _, rfl, rfl, ⟨by decide, by decide, by decide⟩, _, _, rfl, rfl, p, _, rfl, by decide, hp, fun d H' h0 h1 h2 h3 => ⟨_, _, rfl, rfl, ?_⟩⟩
    have e : ((10 : Int) ^ (40 : Int).toNat - 1) = 10 ^ 40 - 1 := rfl
    rw [e] at h1
    exact hq _ _ (by omega) (by omega) h2 h3
  · have zz : m ≠ 0 := fun e => by
      subst e
      exact absurd (decide_eq_true rfl) zz
    refine ⟨_, rfl, _, rfl, p, _, rfl, by omega, by omega, hp, fun d H' h0 h1 h2 h3 => ⟨_, _, rfl, rfl, hq _ _ (by omega) ?_ h2 h3⟩⟩
    have : (1000 : Int) ≤ 10 ^ 40 := by decide
    omega
end Km
end

section
set_option Elab.async false
set_option linter.all false
set_option maxRecDepth 100000
set_option maxHeartbeats 4000000
/-! The law's texts. -/
namespace Km
open PySem PySem.Spec PyProof.Rows L2
variable {P : Program} {w : World} {K : PySem.W.Frag} {mg : Str → Option Value} {base : Heap}
theorem str_len_app (a b : Str) : (a ++ b).length = a.length + b.length := PySem.Str.length_append a b
theorem cut_to10 (z : Str) : (cutS z none (some 10)).length ≤ 10 := by
  show ((z.cps.toList.drop _).take _).toArray.size ≤ 10
  rw [List.size_toArray, List.length_take]
  have e : HT.sIx z.length z.length (some (10 : Int)) = min 10 z.length := HT.sIx_nat z.length z.length 10
  rw [e]
  omega
theorem atI_lt {α : Type} {xs : List α} {i : Int} (d : α) (h0 : 0 ≤ i) (h1 : i < xs.length) : atI xs i = some (xs.getD i.toNat d) := by
  obtain ⟨n, rfl⟩ := Int.eq_ofNat_of_zero_le h0
  have hn : n < xs.length := by omega
  refine atI_nat (j := n) ?_
  rw [List.getElem?_eq_getElem hn]
  simp [List.getD, hn]
theorem atI_sign {z : Str} {i : Int} {n : Nat} (h0 : 0 ≤ i) (h1 : i < n) (hz : z.length = n) : atI z.cps.toList i = some (z.cps.toList.getD i.toNat 0) :=
  atI_lt 0 h0 (by rw [Array.length_toList]; have : z.cps.size = n := hz; omega)
theorem line16 {n : Nat} (h : n ≤ 16777216) : n ≤ sizeLine := by rw [sizeLine_eq]; exact h
theorem inV_str (t : Str) (ts : List Str) : inV (.str t) (ts.map V.str) = decide (t ∈ ts) := by
  unfold inV
  rw [List.any_map]
  induction ts with
  | nil => rfl
  | cons a r ih =>
    rw [List.any_cons, ih]
    show ((a == t) || decide (t ∈ r)) = decide (t ∈ a :: r)
    by_cases e : a = t
    · subst e; simp
    · have e2 : (a == t) = false := by simpa using e
      rw [e2, Bool.false_or]
      simp [Ne.symm e]
theorem flat_strs (ts : List Str) : (ts.map V.str).all flatV = true := by
  rw [List.all_map, List.all_eq_true]
  intro x _
  rfl
/-- a list of texts at a -/
def Lt (H : Hp) (a : Addr) (ts : List Str) : Prop := H a = some (.lst (ts.map V.str))
/-- a tuple of texts at a -/
def Tt (H : Hp) (a : Addr) (ts : List Str) : Prop := H a = some (.tup (ts.map V.str))
theorem st3_ne {H : Hp} {p a : Addr} {ts : List Str} (h : St3 p H) (ha : Lt H a ts) : a ≠ p := fun e => by
  obtain ⟨x, y, z, h⟩ := h
  subst e
  rw [show H a = _ from ha] at h
  injection h with h
  injection h with h
  cases ts with
  | nil => cases h
  | cons t r => injection h with h _; cases h
theorem shape_ix (s : Int) (h0 : 0 ≤ s) (h1 : s < 6) (h2 : s ≠ 2) : ∃ m : Int, atI [V.int 2, V.int 4, V.int 10] (s - 3) = some (.int m) ∧ 1 ≤ m ∧ m ≤ 10 := by
  have : s = 0 ∨ s = 1 ∨ s = 3 ∨ s = 4 ∨ s = 5 := by omega
  rcases this with rfl | rfl | rfl | rfl | rfl
  · exact ⟨2, rfl, by decide, by decide⟩
  · exact ⟨4, rfl, by decide, by decide⟩
  · exact ⟨2, rfl, by decide, by decide⟩
  · exact ⟨4, rfl, by decide, by decide⟩
  · exact ⟨10, rfl, by decide, by decide⟩
theorem atI_text {ts : List Str} {i : Int} (h0 : 0 ≤ i) (h1 : i < ts.length) : ∃ t ∈ ts, atI (ts.map V.str) i = some (.str t) := by
  obtain ⟨n, rfl⟩ := Int.eq_ofNat_of_zero_le h0
  have hn : n < ts.length := by omega
  refine ⟨ts[n], List.getElem_mem hn, atI_nat (j := n) ?_⟩
  rw [List.getElem?_map, List.getElem?_eq_getElem hn] <;> rfl
theorem cut_le (z : Str) (lo hi : Option Int) {n : Nat} (h : z.length ≤ n) : (cutS z lo hi).length ≤ n := Nat.le_trans (L2.cutS_length z lo hi) h
theorem app1 (c : Nat) {x : Str} {n : Nat} (h : x.length ≤ n) : (x ++ (⟨#[c]⟩ : Str)).length ≤ n + 1 := by
  rw [str_len_app]
  exact Nat.add_le_add h (Nat.le_refl 1)
def spText : Sp := fun vs H Q _ => ∃ (p a : Addr) (ts : List Str), vs = [.ref p, .ref a] ∧ St3 p H ∧ Lt H a ts ∧ ts.length ≤ 1000 ∧ (∀ t ∈ ts, t.length ≤ 10) ∧ ∀ t H', t.length ≤ 10 → St3 p H' → Sm p H H' → Q (.str t) H'
abbrev N_law_text : List PySem.Str := ["_law_stream_here", "_law_texts", "_law_signs", "_law_shape", "_law_old", "_law_place", "_law_length", "_law_few", "_law_text_here", "_law_step"]
theorem sc_law_text : FnScope N_law_text ["_law_stream_here", "_law_texts"] (defScope s_law_text) := ⟨rfl, rfl, rfl, by decide +kernel, rfl, by decide +kernel, by decide +kernel⟩
theorem ok_text (fx : Fx K mg) : Cal P w K mg base CX0 2 "_law_text" ["_law_stream_here", "_law_texts"] spText := by
  have cal_law_draw : Cal P w K mg base CX0 1 "_law_draw" ["_law_stream_here", "_law_many"] spDraw := ok_draw fx
  refine Cal.of (st := s_law_text) fx.g_law_text fx.fd_law_text sc_law_text (fun _ _ _ _ _ _ _ us hl => match us, hl with | [_, _], _ => rfl) (fun vs H Q E h => by obtain ⟨p, a, ts, rfl, _⟩ := h; rfl) fun f cdv A outer s H vs Q E hr h => ⟨_, PSs.nox (pss_cons (ps_set (i := 2) sc_law_text.nd rfl (.inl rfl) pe_str) (pss_cons (ps_set (i := 3) sc_law_text.nd rfl (.inl rfl) (pe_c cal_law_draw hr (by decide) rfl pass0 (pa_cons (pv 0) (pa_cons pe_int pa_nil)))) (pss_cons (ps_if (PW.pt (pw_and (pt_cmpR op_lt (pv 3) pe_int (nomark _)) (pw_and1 (pt_cmpR op_gt (pe_callB (call_lenK (K := K) rfl) rfl fx.f_len boot_len (pa_cons (pv 1) pa_nil)) pe_int (nomark _))))) (pss_cons (ps_set (i := 4) sc_law_text.nd rfl (.inl rfl) (pe_ix (ix_listK (K := K) rfl) (pv 1) (pe_c cal_law_draw hr (by decide) rfl pass0 (pa_cons (pv 0) (pa_cons (pe_callB (call_lenK (K := K) rfl) rfl fx.f_len boot_len (pa_cons (pv 1) pa_nil)) pa_nil))) (fun _ _ => rfl))) (pss_cons (ps_set (i := 5) sc_law_text.nd rfl (.inl rfl) (pe_c cal_law_draw hr (by decide) rfl pass0 (pa_cons (pv 0) (pa_cons (pe_op op_add (pe_callB (call_lenK (K := K) rfl) rfl fx.f_len boot_len (pa_cons (pv 4) pa_nil)) pe_int) pa_nil)))) (pss_one (ps_ret (pe_slice sl_str (pe_op op_add_str (pe_op op_add_str (pe_slice sl_str (pv 4) po_none (po_some (pv 5))) (pe_ix ix_str (pv 2) (pe_c cal_law_draw hr (by decide) rfl pass0 (pa_cons (pv 0) (pa_cons pe_int pa_nil))) (fun _ _ => rfl))) (pe_slice sl_str (pv 4) (po_some (pe_op op_add (pv 5) (pv 3))) po_none)) po_none (po_some pe_int)))))) pss_nil) (pss_cons (ps_if (pt_cmpR op_eq (pv 3) pe_int (nomark _)) (pss_one (ps_ret pe_str)) pss_nil) (pss_cons (ps_set (i := 6) sc_law_text.nd rfl (.inl rfl) (pe_op op_add pe_int (pe_c cal_law_draw hr (by decide) rfl pass0 (pa_cons (pv 0) (pa_cons (pe_ix (ix_listK (K := K) rfl) (pe_lst (pa_cons pe_int (pa_cons pe_int (pa_cons pe_int pa_nil)))) (pe_op op_sub (pv 3) pe_int) (fun _ _ => rfl)) pa_nil))))) (pss_cons (ps_set (i := 7) sc_law_text.nd rfl (.inl rfl) (pe_op op_add_str (pe_ix ix_str (pv 2) (pe_c cal_law_draw hr (by decide) rfl pass0 (pa_cons (pv 0) (pa_cons pe_int pa_nil))) (fun _ _ => rfl)) (pe_ix ix_str (pv 2) (pe_c cal_law_draw hr (by decide) rfl pass0 (pa_cons (pv 0) (pa_cons pe_int pa_nil))) (fun _ _ => rfl)))) (pss_cons (ps_set (i := 8) sc_law_text.nd rfl (.inl rfl) pe_str) (pss_cons (ps_for PassesOwn.never rfl (pi_range1 rfl fx.f_range (pa_cons (pv 6) pa_nil)) (pg_name (i := 9) sc_law_text.nd rfl (.inl rfl)) (pss_one (ps_if (pt_cmpR op_eq (pv 3) pe_int (nomark _)) (pss_one (ps_set (i := 8) sc_law_text.nd rfl (.inl rfl) (pe_op op_add_str (pv 8) (pe_ix ix_str (pv 2) (pe_c cal_law_draw hr (by decide) rfl pass0 (pa_cons (pv 0) (pa_cons pe_int pa_nil))) (fun _ _ => rfl))))) (pss_one (ps_set (i := 8) sc_law_text.nd rfl (.inl rfl) (pe_op op_add_str (pv 8) (pe_ix ix_str (pv 7) (pe_c cal_law_draw hr (by decide) rfl pass0 (pa_cons (pv 0) (pa_cons pe_int pa_nil))) (fun _ _ => rfl)))))))) (pss_one (ps_ret (pv 8))))))))))), ?_⟩
  obtain ⟨p, a, ts, rfl, h3, ha, hl, ht, hq⟩ := h
  have hap : a ≠ p := st3_ne h3 ha
  have ten : (10 : Nat) ≤ sizeLine := line16 (by decide)
  refine ⟨_, rfl, p, _, rfl, by decide, by decide, h3, fun sh H1 h0 h1 s1 m1 => ?_⟩
  have a1 : Lt H1 a ts := m1 _ _ hap ha
  refine ⟨_, rfl, _, _, rfl, rfl, _, rfl, ite2 (fun z1 => ⟨_, rfl, _, _, rfl, .inl ⟨_, .inl (.inl a1), rfl⟩, _, _, rfl, rfl, _, rfl, ite2 (fun z2 => ?_) fun z2 => ?_⟩) (fun z1 => iteF ?_)⟩
  · have z2 : (0 : Int) < ((ts.map V.str).length : Int) := by simpa using z2
    rw [List.length_map] at z2
    refine ⟨_, rfl, _, rfl, _, rfl, _, _, rfl, .inl ⟨_, .inl (.inl a1), rfl⟩, p, _, rfl, by rw [List.length_map]; exact z2, by rw [List.length_map]; omega, s1, fun d H2 d0 d1 s2 m2 => ?_⟩
    rw [List.length_map] at d1
    obtain ⟨old, ho, e⟩ := atI_text d0 d1
    have a2 : Lt H2 a ts := m2 _ _ hap a1
    have lo := ht old ho
    refine ⟨a, _, _, _, rfl, rfl, .inl (.inl a2), e, ?_⟩
    refine ⟨_, rfl, _, rfl, _, _, rfl, ⟨Nat.le_trans lo ten, rfl⟩, _, _, rfl, rfl, p, _, rfl, by omega, by omega, s2, fun pl H3 p0 p1 s3 m3 => ?_⟩
    refine ⟨_, rfl, _, rfl, _, rfl, _, rfl, Nat.le_trans lo ten, _, rfl, _, rfl, p, _, rfl, by decide, by decide, s3, fun g H4 g0 g1 s4 m4 => ⟨_, g, _, rfl, rfl, line16 (by decide +kernel), atI_sign (n := 94) g0 g1 (by decide +kernel), ?_⟩⟩
    have c1 := cut_le old none (some pl) lo
    refine ⟨_, _, rfl, rfl, line16 (by show _ + 1 ≤ _; omega), _, rfl, _, rfl, _, rfl, _, _, rfl, rfl, _, rfl, _, rfl, Nat.le_trans lo ten, _, _, rfl, rfl, ?_⟩
    have c2 := cut_le old (some (pl + sh)) none lo
    have c3 := fun c => app1 c c1
    refine ⟨line16 (Nat.le_trans (Nat.add_le_add (c3 _) c2) (by decide)), _, rfl, _, rfl, ?_⟩
    refine ⟨line16 (Nat.le_trans (Nat.le_of_eq (str_len_app _ _)) (Nat.le_trans (Nat.add_le_add (c3 _) c2) (by decide))), ?_⟩
    exact hq _ _ (cut_to10 _) s4 (((m1.trans m2).trans m3).trans m4)
  all_goals
    refine ⟨_, rfl, rfl, _, rfl, ite2 (fun z3 => ?_) fun z3 => ?_⟩
  all_goals first
    | exact hq _ _ (by decide +kernel) s1 m1
    | skip
  all_goals
    have z4 : sh ≠ 2 := fun e => z3 (decide_eq_true (congrArg V.int e))
    obtain ⟨m, e5, m0, m10⟩ := shape_ix sh h0 h1 z4
    refine ⟨_, rfl, by show 3 ≤ sizeLine; decide, fun l nl => ⟨_, rfl, _, _, rfl, rfl, l, _, _, _, rfl, rfl, .inl (.inl upd_same), e5, ?_⟩⟩
    have s1' : St3 p (upd H1 l (.lst [.int 2, .int 4, .int 10])) := let ⟨x, y, z, e⟩ := s1; ⟨x, y, z, upd_at e nl⟩
    have m1' : Sm p H (upd H1 l (.lst [.int 2, .int 4, .int 10])) := m1.trans (Sm.of (same_new nl))
    refine ⟨p, _, rfl, by omega, by omega, s1', fun k H2 k0 k1 s2 m2 => ⟨_, _, rfl, rfl, ?_⟩⟩
    refine ⟨_, rfl, _, rfl, p, _, rfl, by decide, by decide, s2, fun g H3 g0 g1 s3 m3 => ⟨_, g, _, rfl, rfl, line16 (by decide +kernel), atI_sign (n := 94) g0 g1 (by decide +kernel), ?_⟩⟩
    refine ⟨_, rfl, _, rfl, p, _, rfl, by decide, by decide, s3, fun g' H4 g0' g1' s4 m4 => ⟨_, g', _, rfl, rfl, line16 (by decide +kernel), atI_sign (n := 94) g0' g1' (by decide +kernel), ?_⟩⟩
    refine ⟨_, _, rfl, rfl, by show 1 + 1 ≤ sizeLine; decide, ?_⟩
    have mm : Sm p H H4 := ((m1'.trans m2).trans m3).trans m4
    refine ⟨_, rfl, _, rfl, by omega, by omega, for_range (n := (1 + k).toNat) (fun i σ H' => ∃ (t sg fw : Str) (o : Option V), σ = [some (.ref p), some (.ref a), some (.str sg), some (.int sh), none, none, some (.int (1 + k)), some (.str fw), some (.str t), o] ∧ sg.length = 94 ∧ fw.length = 2 ∧ t.length = i ∧ St3 p H' ∧ Sm p H H') ⟨_, _, _, none, rfl, by decide +kernel, rfl, rfl, s4, mm⟩ ?_ ?_⟩
    · rintro i σ H' hi ⟨t, sg, fw, o, rfl, hsg, hfw, et, s5, m5⟩
      have lt : t.length ≤ 10 := by omega
      refine ⟨_, rfl, rfl, _, rfl, ite2 (fun _ => ?_) fun _ => ?_⟩
      · refine ⟨_, rfl, _, rfl, _, rfl, p, _, rfl, by decide, by decide, s5, fun g H6 g0 g1 s6 m6 => ⟨_, g, _, rfl, rfl, line16 (by omega), atI_sign (n := 94) g0 g1 hsg, _, _, rfl, rfl, line16 (by show _ + 1 ≤ _; omega), ?_⟩⟩
        exact ⟨_, sg, fw, _, rfl, hsg, hfw, by rw [str_len_app, et] <;> rfl, s6, m5.trans m6⟩
      · refine ⟨_, rfl, _, rfl, _, rfl, p, _, rfl, by decide, by decide, s5, fun g H6 g0 g1 s6 m6 => ⟨_, g, _, rfl, rfl, line16 (by omega), atI_sign (n := 2) g0 g1 hfw, _, _, rfl, rfl, line16 (by show _ + 1 ≤ _; omega), ?_⟩⟩
        exact ⟨_, sg, fw, _, rfl, hsg, hfw, by rw [str_len_app, et] <;> rfl, s6, m5.trans m6⟩
    · rintro σ H' ⟨t, sg, fw, o, rfl, hsg, hfw, et, s5, m5⟩
      exact ⟨_, rfl, hq _ _ (by omega) s5 m5⟩
/-- one more at the end -/
theorem map_snoc (ts : List Str) (t : Str) : ts.map V.str ++ [V.str t] = (ts ++ [t]).map V.str := by simp
def spPool : Sp := fun vs H Q _ => ∃ (p : Addr) (m : Nat), vs = [.ref p, .int m] ∧ m ≤ 100 ∧ St3 p H ∧
  ∀ l ts H', ts.length ≤ m → (0 < m → ts ≠ []) → ts.Nodup → (∀ t ∈ ts, t.length ≤ 10) → H l = none → Lt H' l ts → St3 p H' → Sm p H H' → Q (.ref l) H'
abbrev N_law_pool : List PySem.Str := ["_law_stream_here", "_law_many", "_law_texts", "_law_step", "_law_text_here"]
theorem sc_law_pool : FnScope N_law_pool ["_law_stream_here", "_law_many"] (defScope s_law_pool) := ⟨rfl, rfl, rfl, by decide +kernel, rfl, by decide +kernel, by decide +kernel⟩
theorem ok_pool (fx : Fx K mg) : Cal P w K mg base CX0 3 "_law_pool" ["_law_stream_here", "_law_many"] spPool := by
  have cal_law_text : Cal P w K mg base CX0 2 "_law_text" ["_law_stream_here", "_law_texts"] spText := ok_text fx
  refine Cal.of (st := s_law_pool) fx.g_law_pool fx.fd_law_pool sc_law_pool (fun _ _ _ _ _ _ _ us hl => match us, hl with | [_, _], _ => rfl) (fun vs H Q E h => by obtain ⟨p, m, rfl, _⟩ := h; rfl) fun f cdv A outer s H vs Q E hr h => ⟨_, PSs.nox (pss_cons (ps_set (i := 2) sc_law_pool.nd rfl (.inl rfl) (pe_lst pa_nil)) (pss_cons (ps_for PassesOwn.never rfl (pi_range1 rfl fx.f_range (pa_cons (pv 1) pa_nil)) (pg_name (i := 3) sc_law_pool.nd rfl (.inl rfl)) (pss_cons (ps_set (i := 4) sc_law_pool.nd rfl (.inl rfl) (pe_c cal_law_text hr (by decide) rfl pass0 (pa_cons (pv 0) (pa_cons (pv 2) pa_nil)))) (pss_one (ps_if (pt_cmpR (op_notIn_seqK (K := K) rfl) (pv 4) (pv 2) rfl) (pss_one (ps_expr (pe_bm PySem.F.plainAttrs_list PySem.F.slot_list_append PySem.F.type_list_append mt_append (pv 2) (pa_cons (pv 4) pa_nil)))) pss_nil)))) (pss_one (ps_ret (pv 2))))), ?_⟩
  obtain ⟨p, m, rfl, hm, h3, hq⟩ := h
  refine ⟨by show 0 ≤ sizeLine; decide, fun l nl => ?_⟩
  have h3' : St3 p (upd H l (.lst [])) := let ⟨x, y, z, e⟩ := h3; ⟨x, y, z, upd_at e nl⟩
  refine ⟨_, rfl, _, rfl, by omega, by omega, for_range (n := m) (fun i σ H' => ∃ (ts : List Str) (o1 o2 : Option V), σ = [some (.ref p), some (.int m), some (.ref l), o1, o2] ∧ ts.length ≤ i ∧ (0 < i → ts ≠ []) ∧ ts.Nodup ∧ (∀ t ∈ ts, t.length ≤ 10) ∧ Lt H' l ts ∧ St3 p H' ∧ Sm p H H')
    ⟨[], none, none, rfl, Nat.le_refl _, fun h => absurd h (Nat.lt_irrefl _), List.nodup_nil, fun t h => (by cases h), upd_same, h3', Sm.of (same_new nl)⟩ ?_ ?_⟩
  · rintro i σ H' hi ⟨ts, o1, o2, rfl, hl, hz, nd, h10, hlt, s1, m1⟩
    have hlp : l ≠ p := st3_ne s1 hlt
    refine ⟨_, rfl, _, rfl, p, l, ts, rfl, s1, hlt, by omega, h10, fun t H2 lt s2 m2 => ?_⟩
    have hlt2 : Lt H2 l ts := m2 _ _ hlp hlt
    refine ⟨_, rfl, _, rfl, l, _, rfl, .inl (.inl (.inl hlt2)), rfl, flat_strs ts, _, rfl, ?_⟩
    rw [if_pos rfl, inV_str]
    cases hin : decide (t ∈ ts) with
    | true =>
      have hin : t ∈ ts := of_decide_eq_true hin
      exact iteF ⟨ts, _, _, rfl, by omega, fun _ e => (by rw [e] at hin; cases hin), nd, h10, hlt2, s2, m1.trans m2⟩
    | false =>
      have hin : ¬ t ∈ ts := of_decide_eq_false hin
      refine iteT ⟨_, rfl, .inl ⟨rfl, _, .inl (.inl hlt2)⟩, _, rfl, l, _, _, rfl, rfl, hlt2, small1000 (by rw [List.length_map]; omega), ?_⟩
      refine ⟨ts ++ [t], _, _, rfl, by rw [List.length_append]; show _ + 1 ≤ _; omega, fun _ e => by simp at e, nd_snoc nd hin, fun t' h' => ?_, ?_, ?_, ?_⟩
      · rcases List.mem_append.mp h' with h' | h'
        · exact h10 _ h'
        · rw [List.mem_singleton.mp h']
          exact lt
      · show upd H2 l _ l = _
        rw [upd_same, map_snoc]
      · obtain ⟨x, y, z, e⟩ := s2
        exact ⟨x, y, z, upd_to e (Ne.symm hlp)⟩
      · exact (m1.trans m2).upd nl
  · rintro σ H' ⟨ts, o1, o2, rfl, hl, hz, nd, h10, hlt, s1, m1⟩
    exact ⟨_, rfl, hq l ts H' hl hz nd h10 nl hlt s1 m1⟩
def spPart : Sp := fun vs H Q _ => ∃ (p a : Addr) (ts : List Str), vs = [.ref p, .ref a] ∧ St3 p H ∧ Lt H a ts ∧ ts.length ≤ 1000 ∧
  ∀ l xs H', xs.length ≤ ts.length → (∀ t ∈ xs, t ∈ ts) → (ts.Nodup → xs.Nodup) → H l = none → Lt H' l xs → St3 p H' → Sm p H H' → Q (.ref l) H'
abbrev N_law_part : List PySem.Str := ["_law_stream_here", "_law_texts", "_law_shape", "_law_text_here"]
theorem sc_law_part : FnScope N_law_part ["_law_stream_here", "_law_texts"] (defScope s_law_part) := ⟨rfl, rfl, rfl, by decide +kernel, rfl, by decide +kernel, by decide +kernel⟩
theorem ok_part (fx : Fx K mg) : Cal P w K mg base CX0 2 "_law_part" ["_law_stream_here", "_law_texts"] spPart := by
  have cal_law_draw : Cal P w K mg base CX0 1 "_law_draw" ["_law_stream_here", "_law_many"] spDraw := ok_draw fx
  refine Cal.of (st := s_law_part) fx.g_law_part fx.fd_law_part sc_law_part (fun _ _ _ _ _ _ _ us hl => match us, hl with | [_, _], _ => rfl) (fun vs H Q E h => by obtain ⟨p, a, ts, rfl, _⟩ := h; rfl) fun f cdv A outer s H vs Q E hr h => ⟨_, PSs.nox (pss_cons (ps_set (i := 2) sc_law_part.nd rfl (.inr rfl) (pe_c cal_law_draw hr (by decide) rfl pass0 (pa_cons (pv 0) (pa_cons pe_int pa_nil)))) (pss_cons (ps_if (pt_cmpR op_eq (pv 2) pe_int (nomark _)) (pss_one (ps_ret (pe_lst pa_nil))) pss_nil) (pss_cons (ps_if (pt_cmpR op_eq (pv 2) pe_int (nomark _)) (pss_one (ps_ret (pe_lstRev rfl rfl fx.f_list rfl fx.f_reversed (pv 1)))) pss_nil) (pss_one (ps_ret (pe_lc (own := [("_law_text_here", 3)]) rfl sc_law_part.nd (pi_listK (K := K) rfl (pv 1)) (blkOk_by (N := N_law_part) (sc := defScope s_law_part) (by decide +kernel)) (fun _ _ _ _ _ => (pg_name (i := 3) sc_law_part.nd rfl (.inl rfl))) (fun _ _ _ _ _ => (pts_one (pt_cmpR op_eq (pe_c cal_law_draw hr (by decide) rfl pass0 (pa_cons (pv 0) (pa_cons (pv 2) pa_nil))) pe_int (nomark _)))) (fun _ _ _ _ _ => (pv 3)))))))), ?_⟩
  obtain ⟨p, a, ts, rfl, h3, ha, hl, hq⟩ := h
  have hap : a ≠ p := st3_ne h3 ha
  refine ⟨_, rfl, p, _, rfl, by decide, by decide, h3, fun sh H1 h0 h1 s1 m1 => ?_⟩
  have a1 : Lt H1 a ts := m1 _ _ hap ha
  have free : ∀ {q : Addr}, H1 q = none → H q = none := fun {q} e => by
    cases e2 : H q with
    | none => rfl
    | some o =>
      by_cases hq : q = p
      · subst hq
        obtain ⟨x, y, z, e3⟩ := s1
        rw [e3] at e
        cases e
      · rw [m1 _ _ hq e2] at e
        cases e
  refine ⟨_, rfl, rfl, _, rfl, ite2 (fun z1 => ?_) fun z1 => ?_⟩
  · refine ⟨by show 0 ≤ sizeLine; decide, fun l nl => hq l [] _ (Nat.zero_le _) (fun t h => by cases h) (fun _ => List.nodup_nil) (free nl) upd_same ?_ (m1.trans (Sm.of (same_new nl)))⟩
    obtain ⟨x, y, z, e⟩ := s1
    exact ⟨x, y, z, upd_at e nl⟩
  refine ⟨_, rfl, rfl, _, rfl, ite2 (fun z2 => ?_) fun z2 => ?_⟩
  · refine ⟨_, rfl, a, _, rfl, .inl (.inl a1), fun l nl => hq l ts.reverse _ (by simp) (fun t h => by simpa using h) (fun h => List.pairwise_reverse.mpr (List.Pairwise.imp (fun hab => Ne.symm hab) h)) (free nl) (by show upd H1 l _ l = _; rw [upd_same, List.map_reverse]) ?_ (m1.trans (Sm.of (same_new nl)))⟩
    obtain ⟨x, y, z, e⟩ := s1
    exact ⟨x, y, z, upd_at e nl⟩
  have z1 : sh ≠ 0 := fun e => z1 (decide_eq_true (congrArg V.int e))
  have z2 : sh ≠ 1 := fun e => z2 (decide_eq_true (congrArg V.int e))
  refine ⟨_, rfl, a, rfl, ⟨_, .inl (.inl a1)⟩, fun D nD => ?_⟩
  have hDp : D ≠ p := fun e => by
    obtain ⟨x, y, z, e2⟩ := s1
    rw [e, e2] at nD
    cases nD
  refine lc_list (xs := ts.map V.str) (fun i H' => ∃ xs : List Str, Lt H' D xs ∧ xs.Sublist (ts.take i) ∧ St3 p H' ∧ Lt H' a ts ∧ Sm p H H') ⟨[], upd_same, List.nil_sublist _, ?_, upd_at a1 nD, m1.trans (Sm.of (same_new nD))⟩ ?_ ?_ ?_
  · obtain ⟨x, y, z, e⟩ := s1
    exact ⟨x, y, z, upd_at e nD⟩
  · rintro i H' hi ⟨xs, _, _, _, h, _⟩
    exact .inl (.inl h)
  · rintro i x H' hx ⟨xs, hD, hxs, s2, a2, m2⟩
    obtain ⟨t, ht, rfl⟩ : ∃ t, ts[i]? = some t ∧ x = .str t := by
      rw [List.getElem?_map] at hx
      obtain ⟨t, h1, h2⟩ := Option.map_eq_some_iff.mp hx
      exact ⟨t, h1, h2.symm⟩
    have hil : i < ts.length := (List.getElem?_eq_some_iff.mp ht).1
    have tk : ts.take (i + 1) = ts.take i ++ [t] := by
      rw [List.take_succ, ht]
      rfl
    have hxl := hxs.length_le
    rw [List.length_take] at hxl
    refine ⟨rfl, _, rfl, _, rfl, p, sh, rfl, by omega, by omega, s2, fun d H2 d0 d1 s3 m3 => ?_⟩
    have hD2 : Lt H2 D xs := m3 _ _ hDp hD
    have a3 : Lt H2 a ts := m3 _ _ hap a2
    refine ⟨rfl, _, rfl, ite2 (fun _ => ?_) fun _ => ?_⟩
    · refine ⟨_, rfl, _, hD2, small1000 (by rw [List.length_map]; omega), xs ++ [t], ?_, ?_, ?_, upd_to a3 ?_, (m2.trans m3).upd (free nD)⟩
      · show upd H2 D _ D = _
        rw [upd_same, map_snoc]
      · rw [tk]
        exact hxs.append (List.Sublist.refl _)
      · obtain ⟨x, y, z, e⟩ := s3
        exact ⟨x, y, z, upd_to e (Ne.symm hDp)⟩
      · intro e
        rw [← e, show H1 a = _ from a1] at nD
        cases nD
    · exact ⟨xs, hD2, by rw [tk]; exact hxs.trans (List.sublist_append_left _ _), s3, a3, m2.trans m3⟩
  · rintro H' ⟨xs, hD, hxs, s2, a2, m2⟩
    rw [List.length_map, List.take_length] at hxs
    exact hq D xs H' hxs.length_le (fun t h => hxs.subset h) (fun h => hxs.nodup h) (free nD) hD s2 m2
end Km
end

section
set_option Elab.async false
set_option linter.all false
set_option maxRecDepth 100000
set_option maxHeartbeats 4000000
/-! Dicts by texts; the table. -/
namespace Km
open PySem PySem.Spec PyProof.Rows L2
section
variable {α β : Type} {f : α → V}
/-- a dict of texts -/
def skv (f : α → V) (L : List (Str × α)) : List (Key × V) := L.map fun e => (Sum.inr e.1, f e.2)
theorem skv_len (L : List (Str × α)) : (skv f L).length = L.length := List.length_map ..
theorem skv_get (t : Str) : ∀ L : List (Str × α), valV (skv f L) (.inr t) = (L.lookup t).map f
  | [] => rfl
  | (u, x) :: r => by
    show valV ((Sum.inr u, f x) :: skv f r) (.inr t) = _
    by_cases e : u = t
    · subst e
      rw [valV_pos (p := ((Sum.inr u : Key), f x)) rfl]
      simp [List.lookup]
    · have e2 : (t == u) = false := by simpa using (Ne.symm e)
      rw [valV_neg (p := ((Sum.inr u : Key), f x)) (fun z => e (Sum.inr.inj z)), skv_get t r]
      simp [List.lookup, e2]
theorem lookup_none {t : Str} : ∀ {L : List (Str × α)}, ¬ t ∈ L.map (·.1) → L.lookup t = none
  | [], _ => rfl
  | (u, x) :: r, h => by
    have e : ¬ t = u := fun z => h (by simp [z])
    have e2 : (t == u) = false := by simpa using e
    show (match t == u with | true => some x | false => r.lookup t) = none
    rw [e2]
    exact lookup_none fun m => h (List.mem_cons_of_mem _ m)
theorem lookup_some {t : Str} {x : α} : ∀ {L : List (Str × α)}, (L.map (·.1)).Nodup → (t, x) ∈ L → L.lookup t = some x
  | [], _, h => by cases h
  | (u, y) :: r, hn, h => by
    obtain ⟨h1, h2⟩ := List.nodup_cons.mp (show (u :: r.map (·.1)).Nodup from hn)
    rcases List.mem_cons.mp h with e | h
    · injection e with e1 e2
      subst e1 e2
      simp [List.lookup]
    · have e : ¬ t = u := fun z => h1 (by rw [← z]; exact List.mem_map.mpr ⟨_, h, rfl⟩)
      have e2 : (t == u) = false := by simpa using e
      show (match t == u with | true => some y | false => r.lookup t) = some x
      rw [e2]
      exact lookup_some h2 h
theorem lookup_mem {t : Str} {x : α} : ∀ {L : List (Str × α)}, L.lookup t = some x → (t, x) ∈ L
  | [], h => by cases h
  | (u, y) :: r, h => by
    have h : (match t == u with | true => some y | false => r.lookup t) = some x := h
    cases e : t == u with
    | true =>
      rw [e] at h
      have e : t = u := by simpa using e
      cases h
      rw [e]
      exact List.mem_cons_self
    | false =>
      rw [e] at h
      exact List.mem_cons_of_mem _ (lookup_mem h)
theorem skv_none {t : Str} {L : List (Str × α)} (h : ¬ t ∈ L.map (·.1)) : valV (skv f L) (.inr t) = none := by rw [skv_get, lookup_none h] <;> rfl
theorem skv_some {t : Str} {x : α} {L : List (Str × α)} (hn : (L.map (·.1)).Nodup) (h : (t, x) ∈ L) : valV (skv f L) (.inr t) = some (f x) := by rw [skv_get, lookup_some hn h] <;> rfl
theorem skv_snoc (L : List (Str × α)) (t : Str) (x : α) : skv f (L ++ [(t, x)]) = skv f L ++ [(Sum.inr t, f x)] := by simp [skv]
theorem skv_put {t : Str} {L : List (Str × α)} (x : α) (h : ¬ t ∈ L.map (·.1)) : putK (skv f L) (.inr t) (f x) = skv f (L ++ [(t, x)]) := by rw [putK_new _ (skv_none h), skv_snoc]
theorem skv_put_last {t : Str} {L : List (Str × α)} (x y : α) (h : ¬ t ∈ L.map (·.1)) : putK (skv f (L ++ [(t, x)])) (.inr t) (f y) = skv f (L ++ [(t, y)]) := by
  have ha : ((skv f (L ++ [(t, x)])).any fun kv => decide (kv.1 = Sum.inr t)) = true := by
    rw [skv_snoc, List.any_append]
    simp
  unfold putK
  rw [if_pos ha, skv_snoc, skv_snoc, List.map_append]
  congr 1
  · refine (List.map_congr_left fun kv hk => ?_).trans (List.map_id _)
    have : kv.1 ≠ Sum.inr t := fun e => by
      obtain ⟨q, hq, e2⟩ := List.mem_map.mp hk
      subst e2
      exact h (List.mem_map.mpr ⟨q, hq, Sum.inr.inj e⟩)
    rw [if_neg this] <;> rfl
  · simp
theorem skv_keys (L : List (Str × α)) : (skv f L).map (·.1) = (L.map (·.1)).map Sum.inr := by simp [skv]
theorem skv_vals (L : List (Str × α)) : (skv f L).map (·.2) = (L.map (·.2)).map f := by simp [skv]
theorem skv_at {L : List (Str × α)} {i : Nat} {e : Str × α} (h : L[i]? = some e) : (skv f L)[i]? = some (Sum.inr e.1, f e.2) := by unfold skv; rw [List.getElem?_map, h] <;> rfl
/-- two lists that agree place by place -/
def All2 (F : α → β → Prop) (xs : List α) (ys : List β) : Prop := xs.length = ys.length ∧ ∀ (i : Nat) (x : α) (y : β), xs[i]? = some x → ys[i]? = some y → F x y
theorem All2.nil {F : α → β → Prop} : All2 F [] [] := ⟨rfl, fun i x y h => by simp at h⟩
theorem All2.mono {F G : α → β → Prop} {xs : List α} {ys : List β} (h : All2 F xs ys) (g : ∀ x y, F x y → G x y) : All2 G xs ys := ⟨h.1, fun i x y a b => g x y (h.2 i x y a b)⟩
theorem All2.snoc {F : α → β → Prop} {xs : List α} {ys : List β} {x : α} {y : β} (h : All2 F xs ys) (g : F x y) : All2 F (xs ++ [x]) (ys ++ [y]) := by
  obtain ⟨hl, h⟩ := h
  refine ⟨by simp [hl], fun i a b ha hb => ?_⟩
  rcases Nat.lt_trichotomy i xs.length with c | c | c
  · rw [List.getElem?_append_left c] at ha
    rw [List.getElem?_append_left (by omega)] at hb
    exact h i a b ha hb
  · rw [List.getElem?_append_right (by omega), show i - xs.length = 0 by omega] at ha
    rw [List.getElem?_append_right (by omega), show i - ys.length = 0 by omega] at hb
    cases ha
    cases hb
    exact g
  · rw [List.getElem?_eq_none (by simp; omega)] at ha
    cases ha
theorem All2.l {F : α → β → Prop} {xs : List α} {ys : List β} {i : Nat} {y : β} (h : All2 F xs ys) (e : ys[i]? = some y) : ∃ x, xs[i]? = some x ∧ F x y := by
  have hi : i < xs.length := by rw [h.1]; exact (List.getElem?_eq_some_iff.mp e).1
  exact ⟨xs[i], List.getElem?_eq_getElem hi, h.2 i _ _ (List.getElem?_eq_getElem hi) e⟩
theorem All2.r {F : α → β → Prop} {xs : List α} {ys : List β} {i : Nat} {x : α} (h : All2 F xs ys) (e : xs[i]? = some x) : ∃ y, ys[i]? = some y ∧ F x y := by
  have hi : i < ys.length := by rw [← h.1]; exact (List.getElem?_eq_some_iff.mp e).1
  exact ⟨ys[i], List.getElem?_eq_getElem hi, h.2 i _ _ e (List.getElem?_eq_getElem hi)⟩
theorem take_snoc {xs : List α} {i : Nat} {x : α} (h : xs[i]? = some x) : xs.take (i + 1) = xs.take i ++ [x] := by
  rw [List.take_succ, h]
  rfl
end
variable {P : Program} {w : World} {K : PySem.W.Frag} {mg : Str → Option Value} {base : Heap}
theorem sm_free {p q : Addr} {H H' : Hp} (m : Sm p H H') (h3 : St3 p H') (e : H' q = none) : H q = none := by
  cases e2 : H q with
  | none => rfl
  | some o =>
    by_cases hq : q = p
    · subst hq
      obtain ⟨x, y, z, e3⟩ := h3
      rw [e3] at e
      cases e
    · rw [m _ _ hq e2] at e
      cases e
theorem St3.new {p q : Addr} {H : Hp} {o : HO} (h : St3 p H) (n : H q = none) : St3 p (upd H q o) := let ⟨x, y, z, e⟩ := h; ⟨x, y, z, upd_at e n⟩
theorem St3.to {p q : Addr} {H : Hp} {o : HO} (h : St3 p H) (n : p ≠ q) : St3 p (upd H q o) := let ⟨x, y, z, e⟩ := h; ⟨x, y, z, upd_to e n⟩
theorem St3.ne {p q : Addr} {H : Hp} (h : St3 p H) (n : H q = none) : q ≠ p := fun e => by
  obtain ⟨x, y, z, h⟩ := h
  rw [e, h] at n
  cases n
/-- a source: its weights -/
structure Src (K : PySem.W.Frag) (H : Hp) (s : Addr) (W : List (Str × Int)) : Prop where
  ex : ∃ (C dx wa : Addr) (fs : List (Str × V)), (C = He.ga K "Table" ∨ C = He.ga K "Machine") ∧ H s = some (.ins C dx fs) ∧ List.lookup ("weights" : Str) fs = some (.ref wa) ∧ List.lookup ("whole" : Str) fs = some (.int (W.map (·.2)).sum) ∧
    List.lookup ("texts" : Str) fs = none ∧ List.lookup ("weight_of" : Str) fs = none ∧ H wa = some (.dK (skv V.int W))
theorem Src.same {H H' : Hp} {s : Addr} {W : List (Str × Int)} (h : Src K H s W) (e : Same H H') : Src K H' s W :=
  let ⟨C, dx, wa, fs, a, b, c, d, f, g, i⟩ := h.ex; ⟨C, dx, wa, fs, a, e _ _ b, c, d, f, g, e _ _ i⟩
/-- a list of pairs (text, weight) -/
def Prs (H : Hp) (l : Addr) (W : List (Str × Int)) : Prop := ∃ as : List Addr, H l = some (.lst (as.map V.ref)) ∧ All2 (fun a e => H a = some (.tup [.str e.1, .int e.2])) as W
/-- weights as the law draws them -/
structure WOk (W : List (Str × Int)) : Prop where
  nd : (W.map (·.1)).Nodup
  pos : ∀ e ∈ W, 1 ≤ e.2 ∧ e.2 ≤ 10 ^ 40
  len : 1 ≤ W.length ∧ W.length ≤ 24
  ten : ∀ e ∈ W, e.1.length ≤ 10
def spTbl (K : PySem.W.Frag) : Sp := fun vs H Q _ => ∃ (x dx l : Addr) (W : List (Str × Int)), vs = [.ref x, .ref l] ∧ H x = some (.ins (He.ga K "Table") dx []) ∧ Prs H l W ∧ (W.map (·.1)).Nodup ∧ (∀ e ∈ W, 1 ≤ e.2) ∧ W.length ≤ 1000 ∧
  ∀ H' wa, (∀ b o, b ≠ x → H b = some o → H' b = some o) → H' x = some (.ins (He.ga K "Table") dx [("weights", .ref wa), ("whole", .int (W.map (·.2)).sum)]) → H' wa = some (.dK (skv V.int W)) → Q .non H'
abbrev N_Table_init : List PySem.Str := ["self", "pairs", "weights", "at", "text", "weight"]
theorem sc_Table_init : FnScope N_Table_init ["self", "pairs"] (defScope s_Table_init) := ⟨rfl, rfl, rfl, by decide +kernel, rfl, by decide +kernel, by decide +kernel⟩
theorem ok_tbl (fx : Fx K mg) : Mak P w K mg base CX0 2 "Table" (He.ga K "Table") ["self", "pairs"] (spTbl K) := by
  have cal_is_integer : Cal P w K mg base CX0 1 "_is_integer" ["value"] spInt := ok_isInt fx
  refine Mak.of (p := ("Table", some "__init__")) (st := s_Table_init) fx.g_Table fx.k_Table fx.fd_Table_init sc_Table_init (fun _ _ _ _ _ _ _ us hl => match us, hl with | [_, _], _ => rfl) (fun vs H Q E h => by obtain ⟨x, dx, l, W, rfl, _⟩ := h; rfl) fun f cdv A outer s H vs Q E hr h => ⟨_, PSs.nox (pss_cons (ps_set (i := 2) sc_Table_init.nd rfl (.inl rfl) pe_dnewK) (pss_cons (ps_for PassesOwn.never rfl (pi_enum rfl fx.f_enumerate (pa_cons (pv 1) pa_nil)) (pg_tupK (K := K) (n := 2) rfl rfl (pgs_cons (pg_name (i := 3) sc_Table_init.nd rfl (.inl rfl)) (pgs_cons (pg_tupK (K := K) (n := 2) rfl rfl (pgs_cons (pg_name (i := 4) sc_Table_init.nd rfl (.inl rfl)) (pgs_cons (pg_name (i := 5) sc_Table_init.nd rfl (.inl rfl)) pgs_nil))) pgs_nil))) (pss_cons (ps_if (PW.pt (pw_or (pt_not (pt_val (pe_c cal_is_integer hr (by decide) rfl pass0 (pa_cons (pv 5) pa_nil)))) (pw_or (pt_cmpR op_lt (pv 5) pe_int (nomark _)) (pw_or1 (pt_cmp (pc_din (hu_of hr) (pv 4) (pv 2))))))) (pss_one ps_never) pss_nil) (pss_one (ps_dput (hu_of hr) (pv 2) (pv 4) (pv 5) rfl)))) (pss_cons (ps_fld (pv 0) (pv 2) rfl) (pss_one (ps_fld (pv 0) (pe_callB (cr_sumVals rfl) rfl fx.f_sum boot_sum (pa_cons (pe_bm0 PySem.F.plainAttrs_dict PySem.F.slot_dict_values PySem.F.type_dict_values mt_dvals (pv 2)) pa_nil)) rfl))))), ?_⟩
  obtain ⟨x, dx, l, W, rfl, hx, ⟨as, hl, h2⟩, nd, pos, hlen, hq⟩ := h
  refine fun d nd' => ?_
  have hd : d ≠ x := fun e => by rw [e, hx] at nd'; cases nd'
  have hdl : d ≠ l := fun e => by rw [e, hl] at nd'; cases nd'
  have hal : as.length = W.length := h2.1
  refine ⟨_, rfl, l, as.map V.ref, rfl, .inl (.inl (upd_at hl nd')), ?_⟩
  refine for_it (walk_enum (K := K) (a := l) (xs := as.map V.ref)) (fun i σ H' => ∃ o1 o2 o3, σ = [some (.ref x), some (.ref l), some (.ref d), o1, o2, o3] ∧ H' d = some (.dK (skv V.int (W.take i))) ∧ Same H H') ⟨none, none, none, rfl, upd_same, same_new nd'⟩ ?_ ?_ ?_
  · rintro i σ H' hi ⟨o1, o2, o3, rfl, _, hs⟩
    exact .inl (.inl (hs _ _ hl))
  · rintro i v σ H' H2 hi ⟨o1, o2, o3, rfl, hd1, hs⟩ ⟨T, a1, y, rfl, nT, rfl, e1, e2⟩
    rw [List.length_map] at hi
    have hi2 : i < W.length := by omega
    cases e1
    obtain ⟨a, ha, rfl⟩ : ∃ a, as[i]? = some a ∧ y = .ref a := by
      have e2 : (as.map V.ref)[i]? = some y := e2
      rw [List.getElem?_map] at e2
      obtain ⟨a, h1, h2⟩ := Option.map_eq_some_iff.mp e2
      exact ⟨a, h1, h2.symm⟩
    obtain ⟨e, he, hta⟩ := h2.r ha
    have hmem := List.mem_of_getElem? he
    have hT : Same H (upd H' T (.tup [.int (i : Nat), .ref a])) := same_upd hs (same_free hs nT)
    have hdT : d ≠ T := fun z => by rw [z, nT] at hd1; cases hd1
    have hd2 := upd_to (o := .tup [.int (i : Nat), .ref a]) hd1 hdT
    have hnew : ¬ e.1 ∈ (W.take i).map (·.1) := by
      intro m
      have n1 : ((W.take (i + 1)).map (·.1)).Nodup := (List.Sublist.map _ (List.take_sublist _ _)).nodup nd
      rw [take_snoc he, List.map_append] at n1
      exact (List.nodup_append.mp n1).2.2 _ m _ (by simp) rfl
    refine ⟨T, _, rfl, .inl (.inl upd_same), rfl, _, _, rfl, _, _, rfl, ⟨a, _, rfl, .inl (.inl (hT _ _ hta)), rfl, _, _, rfl, _, _, rfl, rfl, rfl, ?_⟩⟩
    refine ⟨_, rfl, e.2, rfl, true, rfl, iteF ⟨_, rfl, _, _, rfl, rfl, _, rfl, ite2 (fun z => ?_) fun z => ?_⟩⟩
    · have z : e.2 < 1 := by simpa using z
      have := pos e hmem
      omega
    refine ⟨_, rfl, _, rfl, d, _, rfl, .inl ⟨_, Sum.inr e.1, .inl hd2, rfl, rfl⟩, _, rfl, ?_⟩
    rw [skv_none hnew]
    refine iteF ⟨_, rfl, _, rfl, _, rfl, d, _, rfl, .inl ⟨_, Sum.inr e.1, hd2, rfl, small1000 (by rw [skv_len, List.length_take]; omega), rfl⟩, _, _, _, rfl, ?_, ?_⟩
    · rw [take_snoc he, ← skv_put (f := V.int) e.2 hnew]
      exact upd_same
    · exact same_upd hT nd'
  · rintro σ H' ⟨o1, o2, o3, rfl, hd1, hs⟩
    rw [List.length_map, hal, List.take_length] at hd1
    have hx1 := hs _ _ hx
    refine ⟨_, rfl, _, rfl, x, _, dx, _, rfl, hx1, fx.c_Table, fx.n_Table_weights, by decide, ?_⟩
    have hd2 := upd_to (o := .ins (He.ga K "Table") dx [("weights", .ref d)]) hd1 hd
    refine ⟨_, rfl, .inr (.inr (.inl ⟨rfl, .inl ⟨_, hd2⟩⟩)), d, _, rfl, rfl, hd2, fun p np npd => ?_⟩
    refine ⟨p, d, _, W.map (·.2), rfl, upd_same, upd_at hd2 np, skv_vals W, ?_⟩
    have npx : p ≠ x := fun z => by rw [z, upd_same] at np; cases np
    refine ⟨_, rfl, x, _, dx, _, rfl, upd_at upd_same np, fx.c_Table, fx.n_Table_whole, by show 1 < 1000; decide, ?_⟩
    have npH : H p = none := by
      have q : H' p = none := by rw [upd_ne npx] at np; exact np
      exact same_free hs q
    refine hq _ d (fun b o hb e => ?_) upd_same (upd_to (upd_at hd2 np) hd)
    rw [upd_ne hb, upd_ne (ne_of_none e npH), upd_ne hb]
    exact hs _ _ e
end Km
end

section
set_option Elab.async false
set_option linter.all false
set_option maxRecDepth 100000
set_option maxHeartbeats 4000000
set_option pp.maxSteps 700
/-! The machine. -/
namespace Km
open PySem PySem.Spec PyProof.Rows L2
/-- a dict comprehension over anything: Pv by the turn and the heap (the new dict at D within) -/
theorem dc_it {J : It} {n : Nat} {G : Hp → Prop} {Y : Nat → Hp → V → Hp → Prop} (w : Walk J n G Y) {g : TG} {tt : TT} {tk tv : TE} {vs : List Nat} {σ : L2.St} {H1 : Hp} {D : Addr} {Qd : Hp → Prop} (Pv : Nat → Hp → Prop) (h0 : Pv 0 (upd H1 D (.dK []))) (hG : ∀ i H, i ≤ n → Pv i H → G H)
    (hs : ∀ i x H H', i < n → Pv i H → Y i H x H' → g x (wipe σ vs) H' fun σ2 H2 => wipe σ2 vs = wipe σ vs ∧ tt σ2 H2 fun b H3 =>
      if b = true then tk σ2 H3 fun y H4 => tv σ2 H4 fun z H5 => ∃ kvs k, y = kV k ∧ H5 D = some (.dK kvs) ∧ kvs.length < sizeLine ∧ Pv (i + 1) (upd H5 D (.dK (putK kvs k z))) else Pv (i + 1) H3) (hd : ∀ H, Pv n H → Qd H) :
    ∃ W : Nat → Nat → Hp → Prop, (∃ m, W 0 m (upd H1 D (.dK []))) ∧ ∀ i m H, W i m H →
      (J.stop i H ∧ Qd H) ∨ (J.go i H ∧ ∃ Nx : Hp → Prop, (∀ H', Nx H' → ∃ m', m' < m ∧ W (i + 1) m' H') ∧ ∀ x H', J.yld i H x H' → g x (wipe σ vs) H' fun σ2 H2 => wipe σ2 vs = wipe σ vs ∧ tt σ2 H2 fun b H3 =>
        if b = true then tk σ2 H3 fun y H4 => tv σ2 H4 fun z H5 => ∃ kvs k, y = kV k ∧ H5 D = some (.dK kvs) ∧ kvs.length < sizeLine ∧ Nx (upd H5 D (.dK (putK kvs k z))) else Nx H3) := by
  refine ⟨fun i m H => m = n - i ∧ i ≤ n ∧ Pv i H, ⟨n, by simp, Nat.zero_le _, h0⟩, ?_⟩
  rintro i m H ⟨rfl, hi, p⟩
  have q := hG i H hi p
  by_cases hlt : i < n
  · refine .inr ⟨w.goes i H hlt q, Pv (i + 1), fun H' p' => ⟨n - (i + 1), by omega, rfl, hlt, p'⟩, fun x H' y => hs i x H H' hlt p (w.yields i H x H' hlt q y)⟩
  · have e : i = n := by omega
    subst e
    exact .inl ⟨w.stops H q, hd H p⟩
/-! ### words -/
section
variable {c0 c1 : Nat} {a b : Int}
def ex2 (c0 c1 : Nat) (a b : Int) (p : Str × Int) : List (Str × Int) := [(p.1 ++ (⟨#[c0]⟩ : Str), p.2 * a), (p.1 ++ (⟨#[c1]⟩ : Str), p.2 * b)]
def wds (c0 c1 : Nat) (a b : Int) : Nat → List (Str × Int)
  | 0 => [(Str.ofString "", 1)]
  | n + 1 => (wds c0 c1 a b n).flatMap (ex2 c0 c1 a b)
theorem snoc_inj {s t : Str} {c d : Nat} (h : s ++ (⟨#[c]⟩ : Str) = t ++ (⟨#[d]⟩ : Str)) : s = t ∧ c = d := by
  have h1 : (s ++ (⟨#[c]⟩ : Str)).cps.toList = (t ++ (⟨#[d]⟩ : Str)).cps.toList := by rw [h]
  rw [PySem.Str.cps_append, PySem.Str.cps_append, Array.toList_append, Array.toList_append] at h1
  obtain ⟨h2, h3⟩ := List.append_inj' h1 rfl
  obtain ⟨⟨s⟩⟩ := s
  obtain ⟨⟨t⟩⟩ := t
  have h2 : s = t := h2
  subst h2
  exact ⟨rfl, by simpa using h3⟩
theorem ex2_nd (hc : c0 ≠ c1) : ∀ {L : List (Str × Int)}, (L.map (·.1)).Nodup → ((L.flatMap (ex2 c0 c1 a b)).map (·.1)).Nodup
  | [], _ => List.nodup_nil
  | e :: r, h => by
    obtain ⟨h1, h2⟩ := List.nodup_cons.mp (show (e.1 :: r.map (·.1)).Nodup from h)
    have ih := ex2_nd hc h2
    have out : ∀ c, (e.1 ++ (⟨#[c]⟩ : Str)) ∉ (r.flatMap (ex2 c0 c1 a b)).map (·.1) := fun c m => by
      obtain ⟨q, hq, e2⟩ := List.mem_map.mp m
      obtain ⟨z, hz, hq⟩ := List.mem_flatMap.mp hq
      have : z.1 = e.1 := by
        rcases List.mem_cons.mp hq with rfl | hq
        · exact (snoc_inj e2).1
        · rw [List.mem_singleton.mp hq] at e2
          exact (snoc_inj e2).1
      exact h1 (by rw [← this]; exact List.mem_map.mpr ⟨z, hz, rfl⟩)
    show ((e.1 ++ (⟨#[c0]⟩ : Str)) :: (e.1 ++ (⟨#[c1]⟩ : Str)) :: (r.flatMap (ex2 c0 c1 a b)).map (·.1)).Nodup
    refine List.nodup_cons.mpr ⟨fun m => ?_, List.nodup_cons.mpr ⟨out c1, ih⟩⟩
    rcases List.mem_cons.mp m with e2 | m
    · exact hc (snoc_inj e2).2
    · exact out c0 m
theorem wds_nd (hc : c0 ≠ c1) : ∀ n, ((wds c0 c1 a b n).map (·.1)).Nodup
  | 0 => by simp [wds]
  | n + 1 => ex2_nd hc (wds_nd hc n)
theorem ex2_len (L : List (Str × Int)) : (L.flatMap (ex2 c0 c1 a b)).length = L.length * 2 := by
  induction L with
  | nil => rfl
  | cons e r ih => rw [List.flatMap_cons, List.length_append, ih]; show 2 + _ = _; rw [List.length_cons]; omega
theorem wds_len : ∀ n, (wds c0 c1 a b n).length = 2 ^ n
  | 0 => rfl
  | n + 1 => by
    show ((wds c0 c1 a b n).flatMap (ex2 c0 c1 a b)).length = _
    rw [ex2_len, wds_len n, Nat.pow_succ]
theorem wds_mem {n : Nat} {e : Str × Int} (h : e ∈ wds c0 c1 a b (n + 1)) : ∃ z ∈ wds c0 c1 a b n, e = (z.1 ++ (⟨#[c0]⟩ : Str), z.2 * a) ∨ e = (z.1 ++ (⟨#[c1]⟩ : Str), z.2 * b) := by
  obtain ⟨z, hz, h⟩ := List.mem_flatMap.mp h
  refine ⟨z, hz, ?_⟩
  rcases List.mem_cons.mp h with h | h
  · exact .inl h
  · exact .inr (List.mem_singleton.mp h)
theorem wds_t : ∀ n, ∀ e ∈ wds c0 c1 a b n, e.1.length = n
  | 0, e, h => by rw [List.mem_singleton.mp h]; rfl
  | n + 1, e, h => by
    obtain ⟨z, hz, h⟩ := wds_mem h
    have := wds_t n z hz
    rcases h with rfl | rfl <;> (show (z.1 ++ _).length = _; rw [str_len_app, this]; rfl)
theorem wds_pos (ha : 1 ≤ a ∧ a ≤ 9) (hb : 1 ≤ b ∧ b ≤ 9) : ∀ n, ∀ e ∈ wds c0 c1 a b n, 1 ≤ e.2 ∧ e.2 ≤ 9 ^ n
  | 0, e, h => by rw [List.mem_singleton.mp h]; exact ⟨by decide, by decide⟩
  | n + 1, e, h => by
    obtain ⟨z, hz, h⟩ := wds_mem h
    obtain ⟨h1, h2⟩ := wds_pos ha hb n z hz
    have key : ∀ c : Int, 1 ≤ c → c ≤ 9 → 1 ≤ z.2 * c ∧ z.2 * c ≤ 9 ^ (n + 1) := fun c hc hc9 => by
      have h3 : 1 * 1 ≤ z.2 * c := Int.mul_le_mul h1 hc (by decide) (by omega)
      have h4 : z.2 * c ≤ 9 ^ n * 9 := Int.mul_le_mul h2 hc9 (by omega) (by omega)
      rw [Int.pow_succ]
      omega
    rcases h with rfl | rfl
    · exact key a ha.1 ha.2
    · exact key b hb.1 hb.2
theorem ex2_sum (L : List (Str × Int)) : ((L.flatMap (ex2 c0 c1 a b)).map (·.2)).sum = (L.map (·.2)).sum * (a + b) := by
  induction L with
  | nil => simp
  | cons e r ih =>
    rw [List.flatMap_cons, List.map_append, List.sum_append, ih, List.map_cons, List.sum_cons, Int.add_mul]
    simp [ex2, Int.mul_add]
theorem wds_sum : ∀ n, ((wds c0 c1 a b n).map (·.2)).sum = (a + b) ^ n
  | 0 => by simp [wds]
  | n + 1 => by rw [wds, ex2_sum, wds_sum n, Int.pow_succ]
theorem ex2_take {L : List (Str × Int)} {i : Nat} {e : Str × Int} (h : L[i]? = some e) : (L.take (i + 1)).flatMap (ex2 c0 c1 a b) = (L.take i).flatMap (ex2 c0 c1 a b) ++ ex2 c0 c1 a b e := by
  rw [take_snoc h, List.flatMap_append]
  simp
end
/-! ### Machine.all_weights -/
/-- the one row of the machine -/
structure Row (H : Hp) (rr r0 t0 t1 : Addr) (a b : Int) : Prop where
  rr : H rr = some (.tup [.ref r0])
  r0 : H r0 = some (.tup [.ref t0, .ref t1])
  t0 : H t0 = some (.tup [.int a, .int 0])
  t1 : H t1 = some (.tup [.int b, .int 0])
theorem Row.same {H H' : Hp} {rr r0 t0 t1 : Addr} {a b : Int} (h : Row H rr r0 t0 t1 a b) (s : Same H H') : Row H' rr r0 t0 t1 a b := ⟨s _ _ h.rr, s _ _ h.r0, s _ _ h.t0, s _ _ h.t1⟩
/-- texts with a weight each, and a state -/
def Bgn (H : Hp) (L : List (Str × Addr)) (W : List (Str × Int)) : Prop := All2 (fun e v => e.1 = v.1 ∧ H e.2 = some (.tup [.int v.2, .int 0])) L W
theorem Bgn.keys {H : Hp} {L : List (Str × Addr)} {W : List (Str × Int)} (h : Bgn H L W) : L.map (·.1) = W.map (·.1) := by
  apply List.ext_getElem?
  intro i
  rw [List.getElem?_map, List.getElem?_map]
  cases e : L[i]? with
  | none =>
    have : W[i]? = none := by rw [List.getElem?_eq_none_iff] at e ⊢; rw [← h.1]; exact e
    rw [this] <;> rfl
  | some x =>
    obtain ⟨y, hy, g, _⟩ := h.r e
    rw [hy]
    show some x.1 = some y.1
    rw [g]
theorem Bgn.sm {H H' : Hp} {d : Addr} {L : List (Str × Addr)} {W : List (Str × Int)} {u : HO} (h : Bgn H L W) (s : Sm d H H') (hd : H d = some u) (hu : ∀ xs, u ≠ .tup xs) : Bgn H' L W :=
  h.mono fun e v ⟨a, b⟩ => ⟨a, s _ _ (ne_of b hd (fun z => hu _ z.symm)) b⟩
theorem Bgn.same {H H' : Hp} {L : List (Str × Addr)} {W : List (Str × Int)} (h : Bgn H L W) (s : Same H H') : Bgn H' L W := h.mono fun e v ⟨a, b⟩ => ⟨a, s _ _ b⟩
theorem Bgn.new {H : Hp} {q : Addr} {o : HO} {L : List (Str × Addr)} {W : List (Str × Int)} (h : Bgn H L W) (n : H q = none) : Bgn (upd H q o) L W := h.same (same_new n)
theorem Bgn.dict {H : Hp} {q : Addr} {o u : HO} {L : List (Str × Addr)} {W : List (Str × Int)} (h : Bgn H L W) (n : H q = some u) (hu : ∀ xs, u ≠ .tup xs) : Bgn (upd H q o) L W :=
  h.mono fun e v ⟨a, b⟩ => ⟨a, upd_to b (ne_of b n fun z => hu _ z.symm)⟩
variable {P : Program} {w : World} {K : PySem.W.Frag} {mg : Str → Option Value} {base : Heap}
def spAllW (K : PySem.W.Frag) : Sp := fun vs H Q _ => ∃ (x dx rr r0 t0 t1 : Addr) (z : Str) (c0 c1 : Nat) (a b : Int) (n : Nat) (fs : List (Str × V)), vs = [.ref x] ∧ H x = some (.ins (He.ga K "Machine") dx fs) ∧
  List.lookup ("alphabet" : Str) fs = some (.str z) ∧ List.lookup ("start" : Str) fs = some (.int 0) ∧ List.lookup ("rows" : Str) fs = some (.ref rr) ∧ List.lookup ("length" : Str) fs = some (.int n) ∧ List.lookup ("unit" : Str) fs = some (.int (a + b)) ∧
  z.cps = #[c0, c1] ∧ c0 ≠ c1 ∧ Row H rr r0 t0 t1 a b ∧ 1 ≤ a ∧ a ≤ 9 ∧ 1 ≤ b ∧ b ≤ 9 ∧ n ≤ 3 ∧ ∀ wa H', Same H H' → H' wa = some (.dK (skv V.int (wds c0 c1 a b n))) → Q (.ref wa) H'
abbrev N_Machine_all_weights : List PySem.Str := ["self", "begun", "_", "longer", "text", "weight", "state", "row", "times", "part", "letter", "target"]
theorem sc_Machine_all_weights : FnScope N_Machine_all_weights ["self"] (defScope s_Machine_all_weights) := ⟨rfl, rfl, rfl, by decide +kernel, rfl, by decide +kernel, by decide +kernel⟩
theorem ok_allW (fx : Fx K mg) : Met P w K mg base CX0 1 (He.ga K "Machine") "all_weights" ["self"] (spAllW K) := by
  refine Met.of (p := ("Machine", some "all_weights")) (st := s_Machine_all_weights) fx.c_Machine fx.m_Machine_all_weights fx.fd_Machine_all_weights sc_Machine_all_weights (fun _ _ _ _ _ _ _ us hl => match us, hl with | [_], _ => rfl) (fun vs H Q E h => by obtain ⟨x, dx, rr, r0, t0, t1, z, c0, c1, a, b, n, fs, rfl, _⟩ := h; rfl) fun f cdv A outer s H vs Q E hr h => ⟨_, PSs.nox (pss_cons (ps_set (i := 1) sc_Machine_all_weights.nd rfl (.inl rfl) (pe_disp (pps_cons pe_str (pe_tup (pa_cons pe_int (pa_cons (pe_fldK (K := K) rfl (pv 0) rfl) pa_nil))) pps_nil) (by rfl) (by rfl) (by simp) (by decide))) (pss_cons (ps_for PassesOwn.never rfl (pi_range1 rfl fx.f_range (pa_cons (pe_fldK (K := K) rfl (pv 0) rfl) pa_nil)) (pg_name (i := 2) sc_Machine_all_weights.nd rfl (.inl rfl)) (pss_cons (ps_set (i := 3) sc_Machine_all_weights.nd rfl (.inl rfl) pe_dnewK) (pss_cons (ps_lock (ps_for PassesOwn.never rfl (pi_items (pv 1)) (pg_tupK (K := K) (n := 2) rfl rfl (pgs_cons (pg_name (i := 4) sc_Machine_all_weights.nd rfl (.inl rfl)) (pgs_cons (pg_tupK (K := K) (n := 2) rfl rfl (pgs_cons (pg_name (i := 5) sc_Machine_all_weights.nd rfl (.inl rfl)) (pgs_cons (pg_name (i := 6) sc_Machine_all_weights.nd rfl (.inl rfl)) pgs_nil))) pgs_nil))) (pss_cons (ps_set (i := 7) sc_Machine_all_weights.nd rfl (.inl rfl) (pe_ix (ix_tupK (K := K) rfl) (pe_fldK (K := K) rfl (pv 0) rfl) (pv 6) (fun _ _ => rfl))) (pss_cons (ps_set (i := 8) sc_Machine_all_weights.nd rfl (.inl rfl) (pe_op op_fdivW (pe_fldK (K := K) rfl (pv 0) rfl) (pe_callB (cr_sumK (K := K) rfl rfl) rfl fx.f_sum boot_sum (pa_cons (pe_lc (own := [("part", 9), ("_", 2)]) rfl sc_Machine_all_weights.nd (pi_tupK (K := K) rfl (pv 7)) (blkOk_by (N := N_Machine_all_weights) (sc := defScope s_Machine_all_weights) (by decide +kernel)) (fun _ _ _ _ _ => (pg_tupK (K := K) (n := 2) rfl rfl (pgs_cons (pg_name (i := 9) sc_Machine_all_weights.nd rfl (.inl rfl)) (pgs_cons (pg_name (i := 2) sc_Machine_all_weights.nd rfl (.inl rfl)) pgs_nil)))) (fun _ _ _ _ _ => pts_nil) (fun _ _ _ _ _ => (pv 9))) pa_nil)))) (pss_one (ps_for PassesOwn.never rfl (pi_zipST rfl fx.f_zip (pa_cons (pe_fldK (K := K) rfl (pv 0) rfl) (pa_cons (pv 7) pa_nil))) (pg_tupK (K := K) (n := 2) rfl rfl (pgs_cons (pg_name (i := 10) sc_Machine_all_weights.nd rfl (.inl rfl)) (pgs_cons (pg_tupK (K := K) (n := 2) rfl rfl (pgs_cons (pg_name (i := 9) sc_Machine_all_weights.nd rfl (.inl rfl)) (pgs_cons (pg_name (i := 11) sc_Machine_all_weights.nd rfl (.inl rfl)) pgs_nil))) pgs_nil))) (pss_one (ps_if (pt_cmpR op_gt (pv 9) pe_int (nomark _)) (pss_one (ps_dput (hu_of hr) (pv 3) (pe_op op_add_str (pv 4) (pv 10)) (pe_tup (pa_cons (pe_op op_mulW (pe_op op_mulW (pv 5) (pv 9)) (pv 8)) (pa_cons (pv 11) pa_nil))) rfl)) pss_nil)))))))) (pss_one (ps_set (i := 1) sc_Machine_all_weights.nd rfl (.inl rfl) (pv 3)))))) (pss_one (ps_ret (pe_lock (pe_dc (own := [("text", 4), ("weight", 5), ("_", 2)]) rfl sc_Machine_all_weights.nd (pi_items (pv 1)) (blkOk_by (N := N_Machine_all_weights) (sc := defScope s_Machine_all_weights) (by decide +kernel)) (fun _ _ _ _ _ => (pg_tupK (K := K) (n := 2) rfl rfl (pgs_cons (pg_name (i := 4) sc_Machine_all_weights.nd rfl (.inl rfl)) (pgs_cons (pg_tupK (K := K) (n := 2) rfl rfl (pgs_cons (pg_name (i := 5) sc_Machine_all_weights.nd rfl (.inl rfl)) (pgs_cons (pg_name (i := 2) sc_Machine_all_weights.nd rfl (.inl rfl)) pgs_nil))) pgs_nil)))) (fun _ _ _ _ _ => pts_nil) (fun _ _ _ _ _ => (pv 4)) (fun _ _ _ _ _ => (pv 5)))))))), ?_⟩
  obtain ⟨x, dx, rr, r0, t0, t1, z, c0, c1, a, b, n, fs, rfl, hx, f1, f2, f3, f4, f5, hz, hc, hr0, ha, ha9, hb, hb9, hn, hq⟩ := h
  have cm := fx.c_Machine
  refine fun p np => ?_
  have hpx : H p = none := np
  refine ⟨_, rfl, x, _, dx, fs, _, rfl, upd_at hx np, cm, fx.n_Machine_start, f2, by show 2 ≤ sizeLine; decide, fun q nq => ⟨?_, [(Sum.inr (Str.ofString ""), .ref q)], rfl, (by show 1 ≤ 15; decide), ?_⟩⟩
  · exact upd_at upd_same nq
  have nqp : p ≠ q := fun e => by rw [← e, upd_same] at nq; cases nq
  have nqH : H q = none := by rw [upd_ne (Ne.symm nqp)] at nq; exact nq
  have hs0 : Same H (upd (upd (upd H p (.dK [])) q (.tup [.int 1, .int 0])) p (.dK (skv V.ref [(Str.ofString "", q)]))) := same_upd (same_upd (same_new np) nqH) np
  refine ⟨_, rfl, x, _, dx, fs, _, rfl, hs0 _ _ hx, cm, fx.n_Machine_length, f4, n, rfl, by omega, by omega, ?_⟩
  refine for_range (n := n) (fun k σ H' => ∃ (d : Addr) (L : List (Str × Addr)) (o2 o3 o4 o5 o6 o7 o8 o9 o10 o11 : Option V), σ = [some (.ref x), some (.ref d), o2, o3, o4, o5, o6, o7, o8, o9, o10, o11] ∧ H' d = some (.dK (skv V.ref L)) ∧ H d = none ∧ Bgn H' L (wds c0 c1 a b k) ∧ Same H H')
    ⟨p, [(Str.ofString "", q)], none, none, none, none, none, none, none, none, none, none, rfl, upd_same, np, ?_, hs0⟩ ?_ ?_
  · refine All2.snoc All2.nil ⟨rfl, ?_⟩
    rw [upd_ne (Ne.symm nqp)]
    exact upd_same
  · rintro k σ H1 hk ⟨d, L, o2, o3, o4, o5, o6, o7, o8, o9, o10, o11, rfl, hd, nd, hB, hS⟩
    refine fun d2 nd2 => ?_
    have nd2H : H d2 = none := same_free hS nd2
    have dd2 : d ≠ d2 := fun e => by rw [e, nd2] at hd; cases hd
    refine ⟨d, _, upd_at hd nd2, trivial, fun od => ?_⟩
    have ndk : ((wds c0 c1 a b k).map (·.1)).Nodup := wds_nd hc k
    have hlen : (wds c0 c1 a b k).length ≤ 8 := by rw [wds_len]; exact Nat.pow_le_pow_right (by decide) (show k ≤ 3 by omega)
    refine ⟨_, rfl, d, od, _, rfl, upd_same, for_it (walk_items (d := d) (o := od) (kvs := skv V.ref L)) (fun i σ H2 => ∃ (M : List (Str × Addr)) (o2 o4 o5 o6 o7 o8 o9 o10 o11 : Option V), σ = [some (.ref x), some (.ref d), o2, some (.ref d2), o4, o5, o6, o7, o8, o9, o10, o11] ∧
      H2 d = some (.frz od (.dK (skv V.ref L))) ∧ H2 d2 = some (.dK (skv V.ref M)) ∧ Bgn H2 M (((wds c0 c1 a b k).take i).flatMap (ex2 c0 c1 a b)) ∧ Bgn H2 L (wds c0 c1 a b k) ∧ Same H H2)
      ⟨[], _, o4, o5, o6, o7, o8, o9, o10, o11, rfl, upd_same, upd_to upd_same (Ne.symm dd2), All2.nil, (hB.new nd2).dict (upd_at hd nd2) (fun xs z => by cases z), same_upd (same_upd hS nd2H) nd⟩ ?_ ?_ ?_⟩
    · rintro i σ H2 hi ⟨M, o2, o4, o5, o6, o7, o8, o9, o10, o11, rfl, h1, _⟩
      exact h1
    · rintro i v σ H2 H3 hi ⟨M, o2, o4, o5, o6, o7, o8, o9, o10, o11, rfl, hd1, hM, hBM, hBL, hS2⟩ ⟨T, y1, y2, rfl, nT, rfl, e1, e2⟩
      rw [skv_len] at hi
      have eL : L[i]? = some L[i] := List.getElem?_eq_getElem hi
      have e1 : (skv V.ref L)[i]?.map (fun kv => kV kv.1) = some y1 := e1
      have e2 : (skv V.ref L)[i]?.map Prod.snd = some y2 := e2
      rw [skv_at eL] at e1 e2
      generalize L[i] = e at eL e1 e2
      cases e1
      cases e2
      obtain ⟨v, hv, g1, g2⟩ := hBL.r eL
      have nTH : H T = none := same_free hS2 nT
      have hS3 : Same H (upd H2 T (.tup [.str e.1, .ref e.2])) := same_upd hS2 nTH
      have hr3 := hr0.same hS3
      refine ⟨T, _, rfl, .inl (.inl upd_same), rfl, _, _, rfl, _, _, rfl, ⟨e.2, _, rfl, .inl (.inl (upd_at g2 nT)), rfl, _, _, rfl, _, _, rfl, rfl, rfl, ?_⟩⟩
      refine ⟨_, rfl, x, _, dx, fs, _, rfl, hS3 _ _ hx, cm, fx.n_Machine_rows, f3, _, rfl, rr, _, _, _, rfl, rfl, .inl (.inl hr3.rr), rfl, ?_⟩
      refine ⟨_, rfl, x, _, dx, fs, _, rfl, hS3 _ _ hx, cm, fx.n_Machine_unit, f5, ?_⟩
      refine ⟨_, rfl, r0, rfl, ⟨_, .inl (.inl hr3.r0)⟩, fun D nD => ?_⟩
      refine lc_tup (K := K) (a := r0) (xs := [.ref t0, .ref t1]) (fun j H4 => H4 = upd (upd H2 T (.tup [.str e.1, .ref e.2])) D (.lst (([a, b].take j).map V.int))) rfl ?_ ?_ ?_
      · rintro j H4 _ rfl
        exact .inl (.inl (upd_at hr3.r0 nD))
      · rintro j y H4 hy rfl
        match j, hy with
        | 0, hy =>
          cases hy
          exact ⟨t0, _, rfl, .inl (.inl (upd_at hr3.t0 nD)), rfl, _, _, rfl, _, _, rfl, rfl, rfl, _, rfl, _, upd_same, by show 0 < sizeLine; decide, by rw [upd_upd]; rfl⟩
        | 1, hy =>
          cases hy
          exact ⟨t1, _, rfl, .inl (.inl (upd_at hr3.t1 nD)), rfl, _, _, rfl, _, _, rfl, rfl, rfl, _, rfl, _, upd_same, by show 1 < sizeLine; decide, by rw [upd_upd]; rfl⟩
        | j + 2, hy => simp at hy
      rintro H4 rfl
      have nDH : H D = none := same_free hS3 nD
      have sum2 : [a, b].sum = a + b := by simp
      have one : (a + b) / [a, b].sum = 1 := by rw [sum2]; exact Int.ediv_self (by omega)
      refine ⟨D, [a, b], rfl, .inl (.inl upd_same), _, _, rfl, rfl, divW_of (by rw [sum2]; omega) (by rw [sum2]; show (a + b).natAbs < 2 ^ 8000; exact Nat.lt_of_lt_of_le (show (a + b).natAbs < 2 ^ 5 by omega) (Nat.pow_le_pow_right (by decide) (by decide))), ?_⟩
      have hS4 : Same H (upd (upd H2 T (.tup [.str e.1, .ref e.2])) D (.lst (([a, b].take 2).map V.int))) := same_upd hS3 nDH
      have hr4 := hr0.same hS4
      have hzs : z.cps.size = 2 := by rw [hz]; rfl
      have hw0 := wds_pos (c0 := c0) (c1 := c1) ⟨ha, ha9⟩ ⟨hb, hb9⟩ k v (List.mem_of_getElem? hv)
      have h729 : (9 : Int) ^ k ≤ 9 ^ 3 := by
        have : (9 : Nat) ^ k ≤ 9 ^ 3 := Nat.pow_le_pow_right (by decide) (show k ≤ 3 by omega)
        exact_mod_cast this
      have h729 : v.2 ≤ 729 := by omega
      have ndp : (((((wds c0 c1 a b k).take i).flatMap (ex2 c0 c1 a b)) ++ ex2 c0 c1 a b v).map (·.1)).Nodup := by
        rw [← ex2_take hv]
        exact ex2_nd hc ((List.Sublist.map _ (List.take_sublist _ _)).nodup ndk)
      refine ⟨_, rfl, x, _, dx, fs, _, rfl, hS4 _ _ hx, cm, fx.n_Machine_alphabet, f1, _, rfl, z, r0, _, rfl, .inl (.inl hr4.r0), for_it (walk_zipST (K := K) (x := z) (b := r0) (ys := [.ref t0, .ref t1]) (n := 2) (by rw [hzs]; rfl)) (fun j σ H5 => ∃ (M : List (Str × Addr)) (o2 o9 o10 o11 : Option V), σ = [some (.ref x), some (.ref d), o2, some (.ref d2), some (.str e.1), some (.int v.2), some (.int 0), some (.ref r0), some (.int ((a + b) / [a, b].sum)), o9, o10, o11] ∧
        H5 d = some (.frz od (.dK (skv V.ref L))) ∧ H5 d2 = some (.dK (skv V.ref M)) ∧ Bgn H5 M (((wds c0 c1 a b k).take i).flatMap (ex2 c0 c1 a b) ++ (ex2 c0 c1 a b v).take j) ∧ Bgn H5 L (wds c0 c1 a b k) ∧ Same H H5)
        ⟨M, o2, o9, o10, o11, rfl, upd_at (upd_at hd1 nT) nD, upd_at (upd_at hM nT) nD, ?_, (hBL.new nT).new nD, hS4⟩ ?_ ?_ ?_⟩
      · rw [List.take_zero, List.append_nil]
        exact (hBM.new nT).new nD
      · rintro j σ H5 hj ⟨M, o2, o9, o10, o11, rfl, _, _, _, _, hS5⟩
        exact .inl (.inl (hr0.same hS5).r0)
      · rintro j u σ H5 H6 hj ⟨M, o2, o9, o10, o11, rfl, hd5, hM5, hBM5, hBL5, hS5⟩ ⟨T2, y1, y2, rfl, nT2, rfl, e1, e2⟩
        obtain ⟨c, t, q, ec, et, eq, eex, q1, q9⟩ : ∃ (c : Nat) (t : Addr) (q : Int), y1 = .str ⟨#[c]⟩ ∧ y2 = .ref t ∧ H t = some (.tup [.int q, .int 0]) ∧ (ex2 c0 c1 a b v)[j]? = some (v.1 ++ (⟨#[c]⟩ : Str), v.2 * q) ∧ 1 ≤ q ∧ q ≤ 9 := by
          have e1 : z.cps[j]?.map (fun c => V.str ⟨#[c]⟩) = some y1 := e1
          have e2 : ([V.ref t0, V.ref t1] : List V)[j]? = some y2 := e2
          rw [hz] at e1
          match j, hj, e1, e2 with
          | 0, _, e1, e2 =>
            cases e1
            cases e2
            exact ⟨c0, t0, a, rfl, rfl, hr0.t0, rfl, ha, ha9⟩
          | 1, _, e1, e2 =>
            cases e1
            cases e2
            exact ⟨c1, t1, b, rfl, rfl, hr0.t1, rfl, hb, hb9⟩
        subst ec et
        have hS6 : Same H (upd H5 T2 (.tup [.str ⟨#[c]⟩, .ref t])) := same_upd hS5 (same_free hS5 nT2)
        refine ⟨T2, _, rfl, .inl (.inl upd_same), rfl, _, _, rfl, _, _, rfl, ⟨t, _, rfl, .inl (.inl (hS6 _ _ eq)), rfl, _, _, rfl, _, _, rfl, rfl, rfl, ?_⟩⟩
        refine ⟨_, rfl, _, _, rfl, rfl, _, rfl, ite2 (fun _ => ?_) fun zz => absurd (show (0 : Int) < q by omega) (by simpa using zz)⟩
        have sm : ∀ {i : Int}, i.natAbs < 2 ^ 20 → Bd 8000 i := fun h => Nat.lt_of_lt_of_le h (Nat.pow_le_pow_right (by decide) (by decide))
        have b1 : 1 * 1 ≤ v.2 * q := Int.mul_le_mul hw0.1 q1 (by decide) (by omega)
        have b2 : v.2 * q ≤ 729 * 9 := Int.mul_le_mul h729 q9 (by omega) (by decide)
        refine ⟨_, rfl, _, rfl, _, _, rfl, rfl, mulW_of (sm (by omega)) (sm (by omega)), _, rfl, _, _, rfl, rfl, mulW_of (sm (by omega)) (sm (by rw [one]; decide)), _, rfl, by show 2 ≤ sizeLine; decide, fun q2 nq2 => ?_⟩
        have ev : v.2 * q * ((a + b) / [a, b].sum) = v.2 * q := by rw [one, Int.mul_one]
        have le10 : e.1.length ≤ 10 := by rw [g1, wds_t k v (List.mem_of_getElem? hv)]; omega
        have hM6 := upd_at (o := .tup [.int (v.2 * q * ((a + b) / [a, b].sum)), .int 0]) (upd_at (o := .tup [.str ⟨#[c]⟩, .ref t]) hM5 nT2) nq2
        have hlM : M.length ≤ 100 := by
          have h1 := hBM5.1
          have h2 : (((wds c0 c1 a b k).take i).flatMap (ex2 c0 c1 a b) ++ (ex2 c0 c1 a b v).take j).length ≤ 100 := by
            rw [List.length_append, List.length_take, ex2_len, List.length_take]
            have h6 : (ex2 c0 c1 a b v).length = 2 := rfl
            omega
          omega
        have hnew : ¬ (e.1 ++ (⟨#[c]⟩ : Str)) ∈ M.map (·.1) := by
          rw [hBM5.keys, g1]
          intro m
          have n1 : ((((wds c0 c1 a b k).take i).flatMap (ex2 c0 c1 a b) ++ (ex2 c0 c1 a b v).take (j + 1)).map (·.1)).Nodup :=
            (List.Sublist.map _ (List.Sublist.append_left (List.take_sublist _ _) _)).nodup ndp
          rw [take_snoc eex, ← List.append_assoc, List.map_append] at n1
          exact (List.nodup_append.mp n1).2.2 _ m _ (by simp) rfl
        refine ⟨_, rfl, _, rfl, _, rfl, _, _, rfl, rfl, line16 (by show _ + 1 ≤ _; omega), d2, _, rfl, .inl ⟨_, Sum.inr (e.1 ++ (⟨#[c]⟩ : Str)), hM6, rfl, small1000 (by rw [skv_len]; omega), rfl⟩, ?_⟩
        rw [skv_put (f := V.ref) q2 hnew]
        have dd2' : d ≠ d2 := dd2
        refine ⟨M ++ [(e.1 ++ (⟨#[c]⟩ : Str), q2)], _, _, _, _, rfl, upd_to (upd_at (upd_at hd5 nT2) nq2) dd2', upd_same, ?_, ?_, ?_⟩
        · rw [take_snoc eex, ← List.append_assoc]
          refine All2.snoc ((((hBM5.new nT2).new nq2)).dict hM6 (fun xs z => by cases z)) ⟨by rw [g1], ?_⟩
          have nq2d : q2 ≠ d2 := fun e => by rw [e, upd_at (o := .tup [.str ⟨#[c]⟩, .ref t]) hM5 nT2] at nq2; cases nq2
          rw [upd_ne nq2d]
          exact upd_same.trans (by show some (HO.tup [.int (v.2 * q * ((a + b) / [a, b].sum)), .int 0]) = _; rw [ev])
        · exact ((hBL5.new nT2).new nq2).dict hM6 (fun xs z => by cases z)
        · exact same_upd (same_upd hS6 (same_free hS6 nq2)) nd2H
      · rintro σ H5 ⟨M, o2, o9, o10, o11, rfl, hd5, hM5, hBM5, hBL5, hS5⟩
        refine ⟨M, o2, _, _, _, _, _, o9, o10, o11, rfl, hd5, hM5, ?_, hBL5, hS5⟩
        rw [ex2_take hv]
        exact hBM5
    · rintro σ H2 ⟨M, o2, o4, o5, o6, o7, o8, o9, o10, o11, rfl, hd1, hM, hBM, hBL, hS2⟩
      rw [skv_len, show L.length = (wds c0 c1 a b k).length from hB.1, List.take_length] at hBM
      refine ⟨hd1, _, rfl, d2, M, o2, _, o4, o5, o6, o7, o8, o9, o10, o11, rfl, upd_to hM (Ne.symm dd2), nd2H, hBM.dict hd1 (fun xs z => by cases z), same_upd hS2 nd⟩
  · rintro σ H1 ⟨d, L, o2, o3, o4, o5, o6, o7, o8, o9, o10, o11, rfl, hd, nd, hB, hS⟩
    refine ⟨d, _, hd, trivial, fun od => ⟨_, rfl, d, od, _, rfl, upd_same, fun D nD => ?_⟩⟩
    have ndk : ((wds c0 c1 a b n).map (·.1)).Nodup := wds_nd hc n
    have dD : d ≠ D := fun e => by rw [← e, upd_same] at nD; cases nD
    have nDH : H D = none := by
      rw [upd_ne (Ne.symm dD)] at nD
      exact same_free hS nD
    have hBL0 : Bgn (upd H1 d (.frz od (.dK (skv V.ref L)))) L (wds c0 c1 a b n) := hB.dict hd (fun xs z => by cases z)
    refine dc_it (walk_items (d := d) (o := od) (kvs := skv V.ref L)) (fun i H2 => H2 d = some (.frz od (.dK (skv V.ref L))) ∧ H2 D = some (.dK (skv V.int ((wds c0 c1 a b n).take i))) ∧ Bgn H2 L (wds c0 c1 a b n) ∧ Same H H2)
      ⟨upd_at upd_same nD, upd_same, hBL0.new nD, same_upd (same_upd hS nd) nDH⟩ ?_ ?_ ?_
    · rintro i H2 hi ⟨h1, _⟩
      exact h1
    · rintro i u H2 H3 hi ⟨hd1, hD1, hBL, hS2⟩ ⟨T, y1, y2, rfl, nT, rfl, e1, e2⟩
      rw [skv_len] at hi
      have eL : L[i]? = some L[i] := List.getElem?_eq_getElem hi
      have e1 : (skv V.ref L)[i]?.map (fun kv => kV kv.1) = some y1 := e1
      have e2 : (skv V.ref L)[i]?.map Prod.snd = some y2 := e2
      rw [skv_at eL] at e1 e2
      generalize L[i] = e at eL e1 e2
      cases e1
      cases e2
      obtain ⟨v, hv, g1, g2⟩ := hBL.r eL
      have nTH : H T = none := same_free hS2 nT
      have hlen : (wds c0 c1 a b n).length ≤ 8 := by rw [wds_len]; exact Nat.pow_le_pow_right (by decide) hn
      have hnew : ¬ v.1 ∈ ((wds c0 c1 a b n).take i).map (·.1) := by
        intro m
        have n1 : (((wds c0 c1 a b n).take (i + 1)).map (·.1)).Nodup := (List.Sublist.map _ (List.take_sublist _ _)).nodup ndk
        rw [take_snoc hv, List.map_append] at n1
        exact (List.nodup_append.mp n1).2.2 _ m _ (by simp) rfl
      refine ⟨T, _, rfl, .inl (.inl upd_same), rfl, _, _, rfl, _, _, rfl, ⟨e.2, _, rfl, .inl (.inl (upd_at g2 nT)), rfl, _, _, rfl, _, _, rfl, rfl, rfl, ?_⟩⟩
      have hD2 := upd_at (o := .tup [.str e.1, .ref e.2]) hD1 nT
      refine ⟨rfl, _, rfl, _, rfl, _, Sum.inr e.1, rfl, hD2, small1000 (by rw [skv_len, List.length_take]; omega), upd_to (upd_at hd1 nT) dD, ?_, (hBL.new nT).dict hD2 (fun xs z => by cases z), same_upd (same_upd hS2 nTH) nDH⟩
      rw [take_snoc hv, g1, skv_put (f := V.int) v.2 hnew]
      exact upd_same
    · rintro H2 ⟨hd1, hD1, hBL, hS2⟩
      rw [skv_len, show L.length = (wds c0 c1 a b n).length from hB.1, List.take_length] at hD1
      exact ⟨hd1, hq D _ (same_upd hS2 nd) (upd_to hD1 (Ne.symm dD))⟩
end Km
end

section
set_option Elab.async false
set_option linter.all false
set_option maxRecDepth 100000
set_option maxHeartbeats 4000000
set_option pp.maxSteps 700
/-! The machine made. -/
namespace Km
open PySem PySem.Spec PyProof.Rows L2
variable {P : Program} {w : World} {K : PySem.W.Frag} {mg : Str → Option Value} {base : Heap}
theorem smx_free {x q : Addr} {o : HO} {H H' : Hp} (m : Sm x H H') (hx : H' x = some o) (n : H' q = none) : H q = none ∧ q ≠ x := by
  have hqx : q ≠ x := fun e => by rw [e, hx] at n; cases n
  refine ⟨?_, hqx⟩
  cases e : H q with
  | none => rfl
  | some u => rw [m _ _ hqx e] at n; cases n
def spMacI (K : PySem.W.Frag) : Sp := fun vs H Q _ => ∃ (x dx l l0 t0 t1 : Addr) (z : Str) (c0 c1 : Nat) (a b : Int) (n : Nat), vs = [.ref x, .str z, .int 0, .ref l, .int n] ∧ H x = some (.ins (He.ga K "Machine") dx []) ∧
  z.cps = #[c0, c1] ∧ c0 ≠ c1 ∧ H l = some (.lst [.ref l0]) ∧ H l0 = some (.lst [.ref t0, .ref t1]) ∧ H t0 = some (.tup [.int a, .int 0]) ∧ H t1 = some (.tup [.int b, .int 0]) ∧ 1 ≤ a ∧ a ≤ 9 ∧ 1 ≤ b ∧ b ≤ 9 ∧ n ≤ 3 ∧
  ∀ wa H' fs, Sm x H H' → H' x = some (.ins (He.ga K "Machine") dx fs) → List.lookup ("weights" : Str) fs = some (.ref wa) → List.lookup ("whole" : Str) fs = some (.int ((a + b) ^ n)) → List.lookup ("texts" : Str) fs = none → List.lookup ("weight_of" : Str) fs = none →
    H' wa = some (.dK (skv V.int (wds c0 c1 a b n))) → Q .non H'
abbrev N_Machine_init : List PySem.Str := ["self", "alphabet", "start", "rows", "length", "weight", "state", "row", "_"]
theorem sc_Machine_init : FnScope N_Machine_init ["self", "alphabet", "start", "rows", "length"] (defScope s_Machine_init) := ⟨rfl, rfl, rfl, by decide +kernel, rfl, by decide +kernel, by decide +kernel⟩
theorem ok_macI (fx : Fx K mg) : Mak P w K mg base CX0 3 "Machine" (He.ga K "Machine") ["self", "alphabet", "start", "rows", "length"] (spMacI K) := by
  have cal_least_multiple : Cal P w K mg base CX0 2 "least_multiple" ["a", "b"] spLm := ok_lm fx
  have cal_power : Cal P w K mg base CX0 1 "power" ["a", "n"] spPow := ok_pow fx
  have met_Machine_all_weights : Met P w K mg base CX0 1 (He.ga K "Machine") "all_weights" ["self"] (spAllW K) := ok_allW fx
  refine Mak.of (p := ("Machine", some "__init__")) (st := s_Machine_init) fx.g_Machine fx.k_Machine fx.fd_Machine_init sc_Machine_init (fun _ _ _ _ _ _ _ us hl => match us, hl with | [_, _, _, _, _], _ => rfl) (fun vs H Q E h => by obtain ⟨x, dx, l, l0, t0, t1, z, c0, c1, a, b, n, rfl, _⟩ := h; rfl) fun f cdv A outer s H vs Q E hr h => ⟨_, PSs.nox (pss_cons (ps_fld (pv 0) (pv 1) rfl) (pss_cons (ps_fld (pv 0) (pv 2) rfl) (pss_cons (ps_fld (pv 0) (pe_tupleOfK (K := K) rfl rfl fx.f_tuple (pe_lc (own := [("row", 7)]) rfl sc_Machine_init.nd (pi_listK (K := K) rfl (pv 3)) (blkOk_by (N := N_Machine_init) (sc := defScope s_Machine_init) (by decide +kernel)) (fun _ _ _ _ _ => (pg_name (i := 7) sc_Machine_init.nd rfl (.inl rfl))) (fun _ _ _ _ _ => pts_nil) (fun _ _ _ _ _ => (pe_tupleOfK (K := K) rfl rfl fx.f_tuple (pe_lc (own := [("weight", 5), ("state", 6)]) rfl sc_Machine_init.nd (pi_listK (K := K) rfl (pv 7)) (blkOk_rel (N := N_Machine_init) (sc0 := defScope s_Machine_init) (by decide +kernel)) (fun _ _ _ _ _ => (pg_tupK (K := K) (n := 2) rfl rfl (pgs_cons (pg_name (i := 5) sc_Machine_init.nd rfl (.inl rfl)) (pgs_cons (pg_name (i := 6) sc_Machine_init.nd rfl (.inl rfl)) pgs_nil)))) (fun _ _ _ _ _ => pts_nil) (fun _ _ _ _ _ => (pe_tup (pa_cons (pv 5) (pa_cons (pv 6) pa_nil))))))))) rfl) (pss_cons (ps_fld (pv 0) (pv 4) rfl) (pss_cons (ps_fld (pv 0) pe_int rfl) (pss_cons (ps_for PassesOwn.never rfl (pi_tupK (K := K) rfl (pe_fldK (K := K) rfl (pv 0) rfl)) (pg_name (i := 7) sc_Machine_init.nd rfl (.inl rfl)) (pss_one (ps_fld (pv 0) (pe_c cal_least_multiple hr (by decide) rfl pass0 (pa_cons (pe_fldK (K := K) rfl (pv 0) rfl) (pa_cons (pe_callB (cr_sumK (K := K) rfl rfl) rfl fx.f_sum boot_sum (pa_cons (pe_lc (own := [("weight", 5), ("_", 8)]) rfl sc_Machine_init.nd (pi_tupK (K := K) rfl (pv 7)) (blkOk_by (N := N_Machine_init) (sc := defScope s_Machine_init) (by decide +kernel)) (fun _ _ _ _ _ => (pg_tupK (K := K) (n := 2) rfl rfl (pgs_cons (pg_name (i := 5) sc_Machine_init.nd rfl (.inl rfl)) (pgs_cons (pg_name (i := 8) sc_Machine_init.nd rfl (.inl rfl)) pgs_nil)))) (fun _ _ _ _ _ => pts_nil) (fun _ _ _ _ _ => (pv 5))) pa_nil)) pa_nil))) rfl))) (pss_cons (ps_fld (pv 0) (pe_c cal_power hr (by decide) rfl pass0 (pa_cons (pe_fldK (K := K) rfl (pv 0) rfl) (pa_cons (pv 4) pa_nil))) rfl) (pss_one (ps_fld (pv 0) (pe_mt0 met_Machine_all_weights hr (by decide) pass0 (pv 0)) rfl))))))))), ?_⟩
  obtain ⟨x, dx, l, l0, t0, t1, z, c0, c1, a, b, n, rfl, hx, hz, hc, hl, hl0, ht0, ht1, ha, ha9, hb, hb9, hn, hq⟩ := h
  have cm := fx.c_Machine
  have ne : ∀ {y : Addr} {o : HO}, H y = some o → (∀ C d f, o ≠ .ins C d f) → y ≠ x := fun h g => ne_of h hx fun z => g _ _ _ z
  refine ⟨_, rfl, _, rfl, x, _, dx, _, rfl, hx, cm, fx.n_Machine_alphabet, by decide, ?_⟩
  refine ⟨_, rfl, _, rfl, x, _, dx, _, rfl, upd_same, cm, fx.n_Machine_start, by show 1 < 1000; decide, ?_⟩
  rw [upd_upd]
  let F2 : List (Str × V) := [("alphabet", .str z), ("start", .int 0)]
  have hx2 : upd H x (.ins (He.ga K "Machine") dx F2) x = some (.ins (He.ga K "Machine") dx F2) := upd_same
  have m2 : Sm x H (upd H x (.ins (He.ga K "Machine") dx F2)) := Sm.at (Sm.refl x H)
  let H2 : Hp := upd H x (.ins (He.ga K "Machine") dx F2)
  have hl2 : H2 l = _ := m2 _ _ (ne hl fun _ _ _ z => by cases z) hl
  have hl02 : H2 l0 = _ := m2 _ _ (ne hl0 fun _ _ _ z => by cases z) hl0
  have ht2 : All2 (fun t v => H t = some (.tup [.int v, .int 0])) [t0, t1] [a, b] := (All2.snoc (All2.snoc All2.nil ht0) ht1 : All2 (fun t v => H t = some (HO.tup [.int v, .int 0])) ([] ++ [t0] ++ [t1]) ([] ++ [a] ++ [b]))
  refine ⟨_, rfl, l, rfl, ⟨_, .inl (.inl hl2)⟩, fun D nD => ?_⟩
  refine lc_list (xs := [.ref l0]) (fun j H' => Sm x H H' ∧ H' x = some (.ins (He.ga K "Machine") dx F2) ∧ ((j = 0 ∧ H' D = some (.lst [])) ∨ (j = 1 ∧ ∃ r u0 u1, H' D = some (.lst [.ref r]) ∧ H' r = some (.tup [.ref u0, .ref u1]) ∧ H' u0 = some (.tup [.int a, .int 0]) ∧ H' u1 = some (.tup [.int b, .int 0]))))
    ⟨m2.upd (smx_free m2 hx2 nD).1, upd_at hx2 nD, .inl ⟨rfl, upd_same⟩⟩ ?_ ?_ ?_
  · rintro j H' _ ⟨m, _⟩
    exact .inl (.inl (m _ _ (ne hl fun _ _ _ z => by cases z) hl))
  · rintro j y H3 hy ⟨m3, hx3, hD3⟩
    match j, hy with
    | j + 1, hy => simp at hy
    | 0, hy =>
      cases hy
      have hD3 : H3 D = some (.lst []) := hD3.elim (·.2) fun h => absurd h.1 (by decide)
      refine ⟨rfl, _, rfl, l0, rfl, ⟨_, .inl (.inl (m3 _ _ (ne hl0 fun _ _ _ z => by cases z) hl0))⟩, fun D2 nD2 => ?_⟩
      have fD2 := smx_free m3 hx3 nD2
      have dD : D ≠ D2 := fun e => by rw [e, nD2] at hD3; cases hD3
      refine lc_list (xs := [.ref t0, .ref t1]) (fun j H' => Sm x H H' ∧ H' x = some (.ins (He.ga K "Machine") dx F2) ∧ H' D = some (.lst []) ∧ ∃ us : List Addr, H' D2 = some (.lst (us.map V.ref)) ∧ All2 (fun t v => H' t = some (.tup [.int v, .int 0])) us ([a, b].take j))
        ⟨m3.upd fD2.1, upd_at hx3 nD2, upd_at hD3 nD2, [], upd_same, All2.nil⟩ ?_ ?_ ?_
      · rintro j H' _ ⟨m, _⟩
        exact .inl (.inl (m _ _ (ne hl0 fun _ _ _ z => by cases z) hl0))
      · rintro j y H4 hy ⟨m4, hx4, hD4, us, hD24, hus⟩
        obtain ⟨t, v, rfl, hv, htv⟩ : ∃ t v, y = .ref t ∧ [a, b][j]? = some v ∧ H t = some (.tup [.int v, .int 0]) := by
          match j, hy with
          | 0, hy => cases hy; exact ⟨t0, a, rfl, rfl, ht0⟩
          | 1, hy => cases hy; exact ⟨t1, b, rfl, rfl, ht1⟩
          | j + 2, hy => simp at hy
        refine ⟨t, _, rfl, .inl (.inl (m4 _ _ (ne htv fun _ _ _ z => by cases z) htv)), rfl, _, _, rfl, _, _, rfl, rfl, rfl, ?_⟩
        refine ⟨_, rfl, _, rfl, by show 2 ≤ sizeLine; decide, fun q nq => ?_⟩
        have fq := smx_free m4 hx4 nq
        have qD2 : q ≠ D2 := fun e => by rw [e, hD24] at nq; cases nq
        refine ⟨_, upd_at hD24 nq, small1000 (by rw [List.length_map, hus.1, List.length_take]; show min j 2 ≤ 1000; omega), (m4.upd fq.1).upd fD2.1, upd_to (upd_at hx4 nq) (Ne.symm fD2.2), upd_to (upd_at hD4 nq) dD, us ++ [q], ?_, ?_⟩
        · rw [upd_same]
          simp
        · rw [take_snoc hv]
          refine All2.snoc (hus.mono fun t v e => ?_) ?_
          · exact upd_to (upd_at e nq) (ne_of e hD24 (fun z => by cases z))
          · rw [upd_ne qD2]
            exact upd_same
      · rintro H4 ⟨m4, hx4, hD4, us, hD24, hus⟩
        obtain ⟨u0, e0, g0⟩ := hus.l (i := 0) (y := a) rfl
        obtain ⟨u1, e1, g1⟩ := hus.l (i := 1) (y := b) rfl
        have eus : us = [u0, u1] := by
          have hl := hus.1
          match us, hl, e0, e1 with
          | [v0, v1], _, e0, e1 => cases e0; cases e1; rfl
        subst eus
        refine .inl ⟨D2, _, rfl, .inl (.inl hD24), fun q nq => ?_⟩
        have fq := smx_free m4 hx4 nq
        have qD : q ≠ D := fun e => by rw [e, hD4] at nq; cases nq
        refine ⟨[], upd_at hD4 nq, by show 0 < sizeLine; decide, (m4.upd fq.1).upd (smx_free m2 hx2 nD).1, upd_to (upd_at hx4 nq) (Ne.symm (smx_free m2 hx2 nD).2), .inr ⟨rfl, q, u0, u1, upd_same, ?_, ?_, ?_⟩⟩
        · rw [upd_ne qD]
          exact upd_same
        · exact upd_to (upd_at g0 nq) (ne_of g0 hD4 (fun z => by cases z))
        · exact upd_to (upd_at g1 nq) (ne_of g1 hD4 (fun z => by cases z))
  rintro H3 ⟨m3, hx3, hD3⟩
  obtain ⟨r, u0, u1, hD3, hr3, hu0, hu1⟩ := hD3.elim (fun h => absurd h.1 (by show ¬ (1 : Nat) = 0; decide)) (·.2)
  refine .inl ⟨D, _, rfl, .inl (.inl hD3), fun rr nrr => ?_⟩
  have frr := smx_free m3 hx3 nrr
  refine ⟨_, rfl, x, _, dx, _, rfl, upd_at hx3 nrr, cm, fx.n_Machine_rows, by show 2 < 1000; decide, ?_⟩
  refine ⟨_, rfl, _, rfl, x, _, dx, _, rfl, upd_same, cm, fx.n_Machine_length, by show 3 < 1000; decide, ?_⟩
  rw [upd_upd]
  refine ⟨_, rfl, x, _, dx, _, rfl, upd_same, cm, fx.n_Machine_unit, by show 4 < 1000; decide, ?_⟩
  rw [upd_upd]
  let F5 : Int → List (Str × V) := fun u => [("alphabet", .str z), ("start", .int 0), ("rows", .ref rr), ("length", .int n), ("unit", .int u)]
  have hx5 : upd (upd H3 rr (.tup [.ref r])) x (.ins (He.ga K "Machine") dx (F5 1)) x = some (.ins (He.ga K "Machine") dx (F5 1)) := upd_same
  have R5 : Row (upd (upd H3 rr (.tup [.ref r])) x (.ins (He.ga K "Machine") dx (F5 1))) rr r u0 u1 a b := by
    have t1 : ∀ {y : Addr} {xs : List V}, upd H3 rr (.tup [.ref r]) y = some (.tup xs) → upd (upd H3 rr (.tup [.ref r])) x (.ins (He.ga K "Machine") dx (F5 1)) y = some (.tup xs) := fun {y xs} e => upd_to e (ne_of e (upd_at hx3 nrr) fun z => by cases z)
    exact ⟨t1 upd_same, t1 (upd_at hr3 nrr), t1 (upd_at hu0 nrr), t1 (upd_at hu1 nrr)⟩
  have m5 : Sm x H (upd (upd H3 rr (.tup [.ref r])) x (.ins (He.ga K "Machine") dx (F5 1))) := (m3.upd frr.1).at
  refine ⟨_, rfl, x, _, dx, _, _, rfl, hx5, cm, fx.n_Machine_rows, rfl, rr, rfl, ⟨_, .inl (.inl R5.rr)⟩, ?_⟩
  refine for_tup (xs := [.ref r]) (fun j σ H' => Sm x H H' ∧ Row H' rr r u0 u1 a b ∧ H' x = some (.ins (He.ga K "Machine") dx (F5 (if j = 0 then 1 else a + b))) ∧ ∃ o5 o6 o7 o8, σ = [some (.ref x), some (.str z), some (.int 0), some (.ref l), some (.int n), o5, o6, o7, o8])
    ⟨m5, R5, hx5, none, none, none, none, rfl⟩ ?_ ?_ ?_
  · rintro j σ H' _ ⟨_, R, _⟩
    exact .inl (.inl R.rr)
  · rintro j y σ H6 hy ⟨m6, R6, hx6, o5, o6, o7, o8, rfl⟩
    match j, hy with
    | j + 1, hy => simp at hy
    | 0, hy =>
      cases hy
      refine ⟨_, rfl, x, _, dx, _, _, rfl, hx6, cm, fx.n_Machine_unit, rfl, ?_⟩
      refine ⟨_, rfl, r, rfl, ⟨_, .inl (.inl R6.r0)⟩, fun D nD => ?_⟩
      refine lc_tup (K := K) (a := r) (xs := [.ref u0, .ref u1]) (fun j H4 => H4 = upd H6 D (.lst (([a, b].take j).map V.int))) rfl ?_ ?_ ?_
      · rintro j H4 _ rfl
        exact .inl (.inl (upd_at R6.r0 nD))
      · rintro j y H4 hy rfl
        match j, hy with
        | 0, hy =>
          cases hy
          exact ⟨u0, _, rfl, .inl (.inl (upd_at R6.t0 nD)), rfl, _, _, rfl, _, _, rfl, rfl, rfl, _, rfl, _, upd_same, by show 0 < sizeLine; decide, by rw [upd_upd]; rfl⟩
        | 1, hy =>
          cases hy
          exact ⟨u1, _, rfl, .inl (.inl (upd_at R6.t1 nD)), rfl, _, _, rfl, _, _, rfl, rfl, rfl, _, rfl, _, upd_same, by show 1 < sizeLine; decide, by rw [upd_upd]; rfl⟩
        | j + 2, hy => simp at hy
      rintro H4 rfl
      have fD := smx_free m6 hx6 nD
      obtain ⟨A, eA⟩ := Int.eq_ofNat_of_zero_le (show 0 ≤ a by omega)
      obtain ⟨B, eB⟩ := Int.eq_ofNat_of_zero_le (show 0 ≤ b by omega)
      subst eA eB
      have sum2 : [(A : Int), (B : Int)].sum = ((A + B : Nat) : Int) := by simp
      refine ⟨D, [(A : Int), (B : Int)], rfl, .inl (.inl upd_same), 1, A + B, by rw [sum2] <;> rfl, by decide, by omega, ?_, ?_, ?_⟩
      · show (1 : Int).natAbs < 2 ^ 4000
        exact Nat.lt_of_lt_of_le (by decide : (1 : Nat) < 2 ^ 1) (Nat.pow_le_pow_right (by decide) (by decide))
      · show ((A + B : Nat) : Int).natAbs < 2 ^ 4000
        exact Nat.lt_of_lt_of_le (show ((A + B : Nat) : Int).natAbs < 2 ^ 5 by omega) (Nat.pow_le_pow_right (by decide) (by decide))
      have one : ((1 / Nat.gcd 1 (A + B) * (A + B) : Nat) : Int) = (A : Int) + B := by simp
      rw [one]
      refine ⟨_, rfl, x, _, dx, _, rfl, upd_at hx6 nD, cm, fx.n_Machine_unit, by show 5 < 1000; decide, (m6.upd fD.1).at, ?_, upd_same, _, _, _, _, rfl⟩
      have t1 : ∀ {y : Addr} {xs : List V}, H6 y = some (.tup xs) → upd (upd H6 D (.lst (([(A : Int), (B : Int)].take 2).map V.int))) x (.ins (He.ga K "Machine") dx (F5 (A + B))) y = some (.tup xs) := fun {y xs} e => upd_to (upd_at e nD) (ne_of e hx6 fun z => by cases z)
      exact ⟨t1 R6.rr, t1 R6.r0, t1 R6.t0, t1 R6.t1⟩
  · rintro σ H6 ⟨m6, R6, hx6, o5, o6, o7, o8, rfl⟩
    have hx6 : H6 x = some (.ins (He.ga K "Machine") dx (F5 (a + b))) := hx6
    refine ⟨_, rfl, x, _, dx, _, _, rfl, hx6, cm, fx.n_Machine_unit, rfl, _, rfl, a + b, n, rfl, hn, Nat.lt_of_lt_of_le (show (a + b).natAbs < 2 ^ 5 by omega) (Nat.pow_le_pow_right (by decide) (by decide)), ?_⟩
    refine ⟨_, rfl, x, _, dx, _, rfl, hx6, cm, fx.n_Machine_whole, by show 5 < 1000; decide, ?_⟩
    let F6 : List (Str × V) := [("alphabet", .str z), ("start", .int 0), ("rows", .ref rr), ("length", .int n), ("unit", .int (a + b)), ("whole", .int ((a + b) ^ n))]
    have R7 : Row (upd H6 x (.ins (He.ga K "Machine") dx F6)) rr r u0 u1 a b := by
      have t1 : ∀ {y : Addr} {xs : List V}, H6 y = some (.tup xs) → upd H6 x (.ins (He.ga K "Machine") dx F6) y = some (.tup xs) := fun {y xs} e => upd_to e (ne_of e hx6 fun z => by cases z)
      exact ⟨t1 R6.rr, t1 R6.r0, t1 R6.t0, t1 R6.t1⟩
    refine ⟨_, rfl, x, dx, F6, rfl, upd_same, rfl, x, dx, rr, r, u0, u1, z, c0, c1, a, b, n, F6, rfl, upd_same, rfl, rfl, rfl, rfl, rfl, hz, hc, R7, ha, ha9, hb, hb9, hn, fun wa H8 s8 hwa => ?_⟩
    have hx8 := s8 _ _ (upd_same (H := H6) (a := x) (o := .ins (He.ga K "Machine") dx F6))
    refine ⟨_, rfl, x, _, dx, _, rfl, hx8, cm, fx.n_Machine_weights, by show 6 < 1000; decide, ?_⟩
    refine hq wa _ (F6 ++ [(("weights" : Str), V.ref wa)]) (fun c o hc e => ?_) upd_same rfl rfl rfl rfl (upd_to hwa (ne_of hwa hx8 fun z => by cases z))
    rw [upd_ne hc]
    exact s8 _ _ (by rw [upd_ne hc]; exact m6 _ _ hc e)
end Km
end

section
set_option Elab.async false
set_option linter.all false
set_option maxRecDepth 100000
set_option maxHeartbeats 4000000
set_option pp.maxSteps 700
/-! The law's sources. -/
namespace Km
open PySem PySem.Spec PyProof.Rows L2
/-! ### the product of a word's letters -/
def pr (c0 : Nat) (a b : Int) (l : List Nat) : Int := l.foldl (fun v c => v * (if c = c0 then a else b)) 1
theorem pr_snoc (c0 : Nat) (a b : Int) (l : List Nat) (c : Nat) : pr c0 a b (l ++ [c]) = pr c0 a b l * (if c = c0 then a else b) := by
  unfold pr
  rw [List.foldl_append]
  rfl
theorem cps_snoc (s : Str) (c : Nat) : (s ++ (⟨#[c]⟩ : Str)).cps.toList = s.cps.toList ++ [c] := by
  rw [PySem.Str.cps_append, Array.toList_append]
theorem wds_pr {c0 c1 : Nat} {a b : Int} (hc : c0 ≠ c1) : ∀ n, ∀ e ∈ wds c0 c1 a b n, pr c0 a b e.1.cps.toList = e.2 ∧ ∀ c ∈ e.1.cps.toList, c = c0 ∨ c = c1
  | 0, e, h => by
    rw [List.mem_singleton.mp h]
    exact ⟨rfl, fun c h => by cases h⟩
  | n + 1, e, h => by
    obtain ⟨z, hz, h⟩ := wds_mem h
    obtain ⟨h1, h2⟩ := wds_pr hc n z hz
    rcases h with rfl | rfl
    · refine ⟨?_, fun c hc' => ?_⟩
      · rw [cps_snoc, pr_snoc, h1, if_pos rfl]
      · rw [cps_snoc] at hc'
        rcases List.mem_append.mp hc' with h | h
        · exact h2 c h
        · exact .inl (List.mem_singleton.mp h)
    · refine ⟨?_, fun c hc' => ?_⟩
      · rw [cps_snoc, pr_snoc, h1, if_neg (Ne.symm hc)]
      · rw [cps_snoc] at hc'
        rcases List.mem_append.mp hc' with h | h
        · exact h2 c h
        · exact .inr (List.mem_singleton.mp h)
theorem pr_bd {c0 : Nat} {a b : Int} (ha : 1 ≤ a ∧ a ≤ 9) (hb : 1 ≤ b ∧ b ≤ 9) (l : List Nat) : Bd (4 * l.length + 1) (pr c0 a b l) := by
  suffices ∀ (l : List Nat) (v : Int) (n : Nat), Bd (n + 1) v → Bd (4 * l.length + n + 1) (l.foldl (fun v c => v * (if c = c0 then a else b)) v) from this l 1 0 (by show 1 < 2 ^ 1; decide)
  intro l
  induction l with
  | nil => intro v n h; exact h.mono (by simp)
  | cons c r ih =>
    intro v n h
    have : Bd 4 (if c = c0 then a else b) := by
      show (if c = c0 then a else b).natAbs < 2 ^ 4
      split <;> omega
    have h2 : Bd ((n + 4) + 1) (v * (if c = c0 then a else b)) := (h.mul this).mono (by omega)
    exact (ih _ _ h2).mono (by rw [List.length_cons]; omega)
theorem letters_ix (d : Int) (h0 : 0 ≤ d) (h1 : d < 3) : ∃ (z : Str) (c0 c1 : Nat), atI [V.str (Str.ofString "ab"), V.str (Str.ofString "xz"), V.str (Str.ofString " ~")] d = some (.str z) ∧ z.cps = #[c0, c1] ∧ c0 ≠ c1 ∧
    (∃ r, Builtin.Str.occurrences z ⟨#[c0]⟩ 0 z.length 1 = 0 :: r) ∧ (∃ r, Builtin.Str.occurrences z ⟨#[c1]⟩ 0 z.length 1 = 1 :: r) := by
  have : d = 0 ∨ d = 1 ∨ d = 2 := by omega
  rcases this with rfl | rfl | rfl
  · exact ⟨_, 97, 98, rfl, rfl, by decide, ⟨[], by decide +kernel⟩, ⟨[], by decide +kernel⟩⟩
  · exact ⟨_, 120, 122, rfl, rfl, by decide, ⟨[], by decide +kernel⟩, ⟨[], by decide +kernel⟩⟩
  · exact ⟨_, 32, 126, rfl, rfl, by decide, ⟨[], by decide +kernel⟩, ⟨[], by decide +kernel⟩⟩
theorem top_ix (d : Int) (h0 : 0 ≤ d) (h1 : d < 4) : ∃ m : Int, atI [V.int 6, V.int 6, V.int 1000, V.int 0] d = some (.int m) ∧ 0 ≤ m ∧ m ≤ 1000 := by
  have : d = 0 ∨ d = 1 ∨ d = 2 ∨ d = 3 := by omega
  rcases this with rfl | rfl | rfl | rfl
  · exact ⟨6, rfl, by decide, by decide⟩
  · exact ⟨6, rfl, by decide, by decide⟩
  · exact ⟨1000, rfl, by decide, by decide⟩
  · exact ⟨0, rfl, by decide, by decide⟩
theorem two_ix (x y : Int) (d : Int) (h0 : 0 ≤ d) (h1 : d < 8) : atI [V.int x, V.int y] (d / 7) = some (.int (if d = 7 then y else x)) := by
  by_cases h : d = 7
  · subst h; rfl
  · rw [if_neg h, show d / 7 = 0 by omega]; rfl
theorem lt_map {ts : List Str} {i : Nat} {x : V} (h : (ts.map V.str)[i]? = some x) : ∃ t, ts[i]? = some t ∧ x = .str t := by
  rw [List.getElem?_map] at h
  obtain ⟨t, h1, h2⟩ := Option.map_eq_some_iff.mp h
  exact ⟨t, h1, h2.symm⟩
theorem fst_at {α : Type} {L : List (Str × α)} {i : Nat} {t : Str} (h : (L.map Prod.fst)[i]? = some t) : ∃ x, L[i]? = some (t, x) := by
  rw [List.getElem?_map] at h
  obtain ⟨e, h1, h2⟩ := Option.map_eq_some_iff.mp h
  exact ⟨e.2, by rw [h1, ← h2]⟩
variable {P : Program} {w : World} {K : PySem.W.Frag} {mg : Str → Option Value} {base : Heap}
def spSource (K : PySem.W.Frag) : Sp := fun vs H Q _ => ∃ p : Addr, vs = [.ref p] ∧ St3 p H ∧
  ∀ t s wa W H', WOk W → H' t = some (.tup [.ref s, .ref wa]) → Src K H' s W → H' wa = some (.dK (skv V.int W)) → Sm p H H' → Q (.ref t) H'
abbrev N_law_source : List PySem.Str := ["_law_stream_here", "_law_weights", "_law_texts", "_law_letters", "_law_row", "_law_length", "_law_step", "_law_longer", "_law_text_here", "_law_letter", "_law_top_here", "_law_many"]
theorem sc_law_source : FnScope N_law_source ["_law_stream_here"] (defScope s_law_source) := ⟨rfl, rfl, rfl, by decide +kernel, rfl, by decide +kernel, by decide +kernel⟩
theorem ok_source (fx : Fx K mg) : Cal P w K mg base CX0 5 "_law_source" ["_law_stream_here"] (spSource K) := by
  have cal_law_draw : Cal P w K mg base CX0 1 "_law_draw" ["_law_stream_here", "_law_many"] spDraw := ok_draw fx
  have cal_law_pool : Cal P w K mg base CX0 3 "_law_pool" ["_law_stream_here", "_law_many"] spPool := ok_pool fx
  have cal_law_top : Cal P w K mg base CX0 3 "_law_top" ["_law_stream_here", "_law_top_here"] spTop := ok_top fx
  have mak_Machine : Mak P w K mg base CX0 3 "Machine" (He.ga K "Machine") ["self", "alphabet", "start", "rows", "length"] (spMacI K) := ok_macI fx
  have mak_Table : Mak P w K mg base CX0 2 "Table" (He.ga K "Table") ["self", "pairs"] (spTbl K) := ok_tbl fx
  refine Cal.of (st := s_law_source) fx.g_law_source fx.fd_law_source sc_law_source (fun _ _ _ _ _ _ _ us hl => match us, hl with | [_], _ => rfl) (fun vs H Q E h => by obtain ⟨p, rfl, _⟩ := h; rfl) fun f cdv A outer s H vs Q E hr h => ⟨_, PSs.nox (pss_cons (ps_set (i := 1) sc_law_source.nd rfl (.inr rfl) pe_dnewK) (pss_cons (ps_if (pt_cmpR op_eq (pe_c cal_law_draw hr (by decide) rfl pass0 (pa_cons (pv 0) (pa_cons pe_int pa_nil))) pe_int (nomark _)) (pss_cons (ps_set (i := 2) sc_law_source.nd rfl (.inl rfl) (pe_lst (pa_cons pe_str pa_nil))) (pss_cons (ps_set (i := 3) sc_law_source.nd rfl (.inl rfl) (pe_ix (ix_listK (K := K) rfl) (pe_lst (pa_cons pe_str (pa_cons pe_str (pa_cons pe_str pa_nil)))) (pe_c cal_law_draw hr (by decide) rfl pass0 (pa_cons (pv 0) (pa_cons pe_int pa_nil))) (fun _ _ => rfl))) (pss_cons (ps_set (i := 4) sc_law_source.nd rfl (.inl rfl) (pe_lst (pa_cons (pe_op op_add pe_int (pe_c cal_law_draw hr (by decide) rfl pass0 (pa_cons (pv 0) (pa_cons pe_int pa_nil)))) (pa_cons (pe_op op_add pe_int (pe_c cal_law_draw hr (by decide) rfl pass0 (pa_cons (pv 0) (pa_cons pe_int pa_nil)))) pa_nil)))) (pss_cons (ps_set (i := 5) sc_law_source.nd rfl (.inl rfl) (pe_c cal_law_draw hr (by decide) rfl pass0 (pa_cons (pv 0) (pa_cons pe_int pa_nil)))) (pss_cons (ps_for PassesOwn.never rfl (pi_range1 rfl fx.f_range (pa_cons (pv 5) pa_nil)) (pg_name (i := 6) sc_law_source.nd rfl (.inl rfl)) (pss_cons (ps_set (i := 7) sc_law_source.nd rfl (.inl rfl) (pe_lst pa_nil)) (pss_cons (ps_for PassesOwn.never rfl (pi_listK (K := K) rfl (pv 2)) (pg_name (i := 8) sc_law_source.nd rfl (.inr rfl)) (pss_one (ps_set (i := 7) sc_law_source.nd rfl (.inl rfl) (pe_op op_cat (pv 7) (pe_lc (own := [("_law_letter", 9)]) rfl sc_law_source.nd (pi_str (pv 3)) (blkOk_by (N := N_law_source) (sc := defScope s_law_source) (by decide +kernel)) (fun _ _ _ _ _ => (pg_name (i := 9) sc_law_source.nd rfl (.inl rfl))) (fun _ _ _ _ _ => pts_nil) (fun _ _ _ _ _ => (pe_op op_add_str (pv 8) (pv 9)))))))) (pss_one (ps_set (i := 2) sc_law_source.nd rfl (.inl rfl) (pv 7)))))) (pss_cons (ps_for PassesOwn.never rfl (pi_listK (K := K) rfl (pv 2)) (pg_name (i := 8) sc_law_source.nd rfl (.inr rfl)) (pss_cons (ps_dput (hu_of hr) (pv 1) (pv 8) pe_int rfl) (pss_one (ps_for PassesOwn.never rfl (pi_str (pv 8)) (pg_name (i := 9) sc_law_source.nd rfl (.inl rfl)) (pss_one (ps_dput (hu_of hr) (pv 1) (pv 8) (pe_op op_mulW (pe_dget (hu_of hr) (pv 1) (pv 8) (fun _ _ => rfl)) (pe_ix (ix_listK (K := K) rfl) (pv 4) (pe_bm PySem.F.plainAttrs_str PySem.F.slot_str_index PySem.F.type_str_index mt_sindex (pv 3) (pa_cons (pv 9) pa_nil)) (fun _ _ => rfl))) rfl)))))) (pss_one (ps_ret (pe_tup (pa_cons (pe_mk mak_Machine hr (by decide) rfl pass0 (pa_cons (pv 3) (pa_cons pe_int (pa_cons (pe_lst (pa_cons (pe_lst (pa_cons (pe_tup (pa_cons (pe_ix (ix_listK (K := K) rfl) (pv 4) pe_int (fun _ _ => rfl)) (pa_cons pe_int pa_nil))) (pa_cons (pe_tup (pa_cons (pe_ix (ix_listK (K := K) rfl) (pv 4) pe_int (fun _ _ => rfl)) (pa_cons pe_int pa_nil))) pa_nil))) pa_nil)) (pa_cons (pv 5) pa_nil))))) (pa_cons (pv 1) pa_nil))))))))))) pss_nil) (pss_cons (ps_set (i := 10) sc_law_source.nd rfl (.inl rfl) (pe_ix (ix_listK (K := K) rfl) (pe_lst (pa_cons pe_int (pa_cons pe_int (pa_cons pe_int (pa_cons pe_int pa_nil))))) (pe_c cal_law_draw hr (by decide) rfl pass0 (pa_cons (pv 0) (pa_cons pe_int pa_nil))) (fun _ _ => rfl))) (pss_cons (ps_set (i := 11) sc_law_source.nd rfl (.inl rfl) (pe_op op_add pe_int (pe_c cal_law_draw hr (by decide) rfl pass0 (pa_cons (pv 0) (pa_cons (pe_ix (ix_listK (K := K) rfl) (pe_lst (pa_cons pe_int (pa_cons pe_int pa_nil))) (pe_op op_fdiv (pe_callTy call_int1 rfl fx.f_int boot_int (pa_cons (pe_c cal_law_draw hr (by decide) rfl pass0 (pa_cons (pv 0) (pa_cons pe_int pa_nil))) pa_nil)) pe_int) (fun _ _ => rfl)) pa_nil))))) (pss_cons (ps_for PassesOwn.never rfl (pi_listK (K := K) rfl (pe_c cal_law_pool hr (by decide) rfl pass0 (pa_cons (pv 0) (pa_cons (pv 11) pa_nil)))) (pg_name (i := 8) sc_law_source.nd rfl (.inr rfl)) (pss_one (ps_dput (hu_of hr) (pv 1) (pv 8) (pe_c cal_law_top hr (by decide) rfl pass0 (pa_cons (pv 0) (pa_cons (pv 10) pa_nil))) rfl))) (pss_one (ps_ret (pe_tup (pa_cons (pe_mk mak_Table hr (by decide) rfl pass0 (pa_cons (pe_lock (pe_lc (own := [("_law_text_here", 8)]) rfl sc_law_source.nd (pi_keys (pv 1)) (blkOk_by (N := N_law_source) (sc := defScope s_law_source) (by decide +kernel)) (fun _ _ _ _ _ => (pg_name (i := 8) sc_law_source.nd rfl (.inl rfl))) (fun _ _ _ _ _ => pts_nil) (fun _ _ _ _ _ => (pe_tup (pa_cons (pv 8) (pa_cons (pe_dget (hu_of hr) (pv 1) (pv 8) (fun _ _ => rfl)) pa_nil)))))) pa_nil)) (pa_cons (pv 1) pa_nil)))))))))), ?_⟩
  obtain ⟨p, rfl, h3, hq⟩ := h
  refine fun d nd => ?_
  have dp := h3.ne nd
  have h3' : St3 p (upd H d (.dK [])) := h3.new nd
  have m0 : Sm p H (upd H d (.dK [])) := Sm.of (same_new nd)
  refine ⟨_, rfl, p, _, rfl, by decide, by decide, h3', fun k H1 k0 k1 s1 m1 => ⟨rfl, _, rfl, ite2 (fun _ => ?_) fun _ => ?_⟩⟩
  · have hd1 : H1 d = some (.dK []) := m1 _ _ dp upd_same
    have m1 := m0.trans m1
    refine ⟨by show 1 ≤ sizeLine; decide, fun lt nlt => ?_⟩
    have s2 := s1.new (o := .lst [.str (Str.ofString "")]) nlt
    have ltp := s1.ne nlt
    refine ⟨by show 3 ≤ sizeLine; decide, fun l3 nl3 => ?_⟩
    have l3p := s2.ne nl3
    have s3 := s2.new (o := .lst [.str (Str.ofString "ab"), .str (Str.ofString "xz"), .str (Str.ofString " ~")]) nl3
    refine ⟨_, rfl, p, _, rfl, by decide, by decide, s3, fun d3 H2 d30 d31 s4 m4 => ?_⟩
    obtain ⟨z, c0, c1, ez, hz, hc, ⟨r0, oc0⟩, ⟨r1, oc1⟩⟩ := letters_ix d3 d30 d31
    refine ⟨l3, _, _, _, rfl, rfl, .inl (.inl (m4 _ _ l3p upd_same)), ez, ?_⟩
    have hlt2 : Lt H2 lt [Str.ofString ""] := m4 _ _ ltp (upd_at upd_same nl3)
    have hd2 : H2 d = some (.dK []) := m4 _ _ dp (upd_at (upd_at hd1 nlt) nl3)
    have m2 : Sm p H H2 := ((m1.trans (Sm.of (same_new nlt))).trans (Sm.of (same_new nl3))).trans m4
    refine ⟨_, rfl, p, _, rfl, by decide, by decide, s4, fun a' H3 a0 a1 s5 m5 => ⟨_, _, rfl, rfl, _, rfl, p, _, rfl, by decide, by decide, s5, fun b' H4 b0 b1 s6 m6 => ⟨_, _, rfl, rfl, by show 2 ≤ sizeLine; decide, fun rw' nrw => ?_⟩⟩⟩
    have rwp := s6.ne nrw
    refine ⟨_, rfl, p, _, rfl, by decide, by decide, s6.new nrw, fun n H5 n0 n1 s7 m7 => ?_⟩
    obtain ⟨a, ea⟩ : ∃ a : Int, a = 1 + a' := ⟨_, rfl⟩
    obtain ⟨b, eb⟩ : ∃ b : Int, b = 1 + b' := ⟨_, rfl⟩
    obtain ⟨n, rfl⟩ := Int.eq_ofNat_of_zero_le n0
    have ha : 1 ≤ a ∧ a ≤ 9 := by omega
    have hb : 1 ≤ b ∧ b ≤ 9 := by omega
    have hrw5 : H5 rw' = some (.lst [.int a, .int b]) := by
      rw [ea, eb]
      exact m7 _ _ rwp upd_same
    have hlt5 : Lt H5 lt [Str.ofString ""] := m7 _ _ ltp (upd_at (m6 _ _ ltp (m5 _ _ ltp hlt2)) nrw)
    have hd5 : H5 d = some (.dK []) := m7 _ _ dp (upd_at (m6 _ _ dp (m5 _ _ dp hd2)) nrw)
    have m5' : Sm p H H5 := (((m2.trans m5).trans m6).trans (Sm.of (same_new nrw))).trans m7
    have bdl : ∀ k, k ≤ n → (wds c0 c1 a b k).length ≤ 8 := fun k hk => by rw [wds_len]; exact Nat.pow_le_pow_right (by decide) (show k ≤ 3 by omega)
    refine ⟨_, rfl, _, rfl, by omega, by omega, for_range (n := n) (fun k σ H' => ∃ (lx : Addr) (o6 o7 o8 o9 : Option V), σ = [some (.ref p), some (.ref d), some (.ref lx), some (.str z), some (.ref rw'), some (.int n), o6, o7, o8, o9, none, none] ∧ Lt H' lx ((wds c0 c1 a b k).map Prod.fst) ∧
      H' d = some (.dK []) ∧ H' rw' = some (.lst [.int a, .int b]) ∧ St3 p H' ∧ Sm p H H') ⟨lt, none, none, none, none, rfl, hlt5, hd5, hrw5, s7, m5'⟩ ?_ ?_⟩
    · rintro k σ H6 hk ⟨lx, o6, o7, o8, o9, rfl, hlx, hd6, hrw6, s8, m8⟩
      refine ⟨by show 0 ≤ sizeLine; decide, fun lg nlg => ?_⟩
      refine ⟨_, rfl, lx, rfl, ⟨_, .inl (.inl (upd_at hlx nlg))⟩, for_list (xs := ((wds c0 c1 a b k).map Prod.fst).map V.str) (fun i σ H' => ∃ (lg : Addr) (o6 o8 o9 : Option V), σ = [some (.ref p), some (.ref d), some (.ref lx), some (.str z), some (.ref rw'), some (.int n), o6, some (.ref lg), o8, o9, none, none] ∧
        Lt H' lg ((((wds c0 c1 a b k).take i).flatMap (ex2 c0 c1 a b)).map Prod.fst) ∧ Lt H' lx ((wds c0 c1 a b k).map Prod.fst) ∧ H' d = some (.dK []) ∧ H' rw' = some (.lst [.int a, .int b]) ∧ St3 p H' ∧ Sm p H H')
        ⟨lg, _, o8, o9, rfl, upd_same, upd_at hlx nlg, upd_at hd6 nlg, upd_at hrw6 nlg, s8.new nlg, m8.upd (sm_free m8 s8 nlg)⟩ ?_ ?_ ?_⟩
      · rintro i σ H' _ ⟨lg, o6, o8, o9, rfl, _, h, _⟩
        exact .inl (.inl h)
      · rintro i y σ H7 hy ⟨lg, o6, o8, o9, rfl, hlg, hlx7, hd7, hrw7, s9, m9⟩
        obtain ⟨t, ht, rfl⟩ := lt_map hy
        obtain ⟨v, he⟩ := fst_at ht
        have hmem := List.mem_of_getElem? he
        have hil : i < (wds c0 c1 a b k).length := (List.getElem?_eq_some_iff.mp he).1
        have l8 := bdl k (Nat.le_of_lt hk)
        have tl : t.length = k := wds_t k _ hmem
        refine ⟨_, rfl, _, rfl, z, rfl, fun D nD => ?_⟩
        have hzs : z.cps.size = 2 := by rw [hz]; rfl
        refine lc_it (walk_str (z := z)) (fun j H' => H' = upd H7 D (.lst ((((ex2 c0 c1 a b (t, v)).take j).map Prod.fst).map V.str))) rfl (fun _ _ _ _ => trivial) ?_ ?_
        · rintro j y H' H'' hj rfl ⟨rfl, c, hcj, rfl⟩
          obtain ⟨q, hq'⟩ : ∃ q, (ex2 c0 c1 a b (t, v))[j]? = some (t ++ (⟨#[c]⟩ : Str), q) := by
            rw [hz] at hcj
            match j, hcj with
            | 0, hcj => cases hcj; exact ⟨_, rfl⟩
            | 1, hcj => cases hcj; exact ⟨_, rfl⟩
            | j + 2, hcj => simp at hcj
          refine ⟨rfl, _, rfl, _, rfl, _, _, rfl, rfl, line16 (by show _ + 1 ≤ _; omega), _, upd_same, small1000 (by rw [List.length_map, List.length_map, List.length_take]; show min j 2 ≤ 1000; omega), ?_⟩
          rw [upd_upd, take_snoc hq']
          simp
        · rintro H' rfl
          rw [hzs]
          have nDlg : lg ≠ D := fun e => by rw [← e, show H7 lg = _ from hlg] at nD; cases nD
          refine ⟨lg, D, _, _, rfl, rfl, upd_at hlg nD, upd_same, line16 ?_, fun l2 nl2 => ?_⟩
          · rw [List.length_map, List.length_map, List.length_map, List.length_map, ex2_len, List.length_take, List.length_take]
            have : (ex2 c0 c1 a b (t, v)).length = 2 := rfl
            omega
          have nDH := sm_free m9 s9 nD
          have s10 := s9.new (o := .lst ((((ex2 c0 c1 a b (t, v)).take 2).map Prod.fst).map V.str)) nD
          have m10 : Sm p H (upd H7 D (.lst ((((ex2 c0 c1 a b (t, v)).take 2).map Prod.fst).map V.str))) := m9.upd nDH
          refine ⟨l2, _, _, _, rfl, ?_, upd_at (upd_at hlx7 nD) nl2, upd_at (upd_at hd7 nD) nl2, upd_at (upd_at hrw7 nD) nl2, s10.new nl2, m10.upd (sm_free m10 s10 nl2)⟩
          show upd _ l2 _ l2 = _
          rw [upd_same, ex2_take he]
          simp [ex2]
      · rintro σ H7 ⟨lg, o6, o8, o9, rfl, hlg, hlx7, hd7, hrw7, s9, m9⟩
        rw [List.length_map, List.length_map, List.take_length] at hlg
        exact ⟨_, rfl, lg, _, _, _, _, rfl, hlg, hd7, hrw7, s9, m9⟩
    · rintro σ H6 ⟨lx, o6, o7, o8, o9, rfl, hlx, hd6, hrw6, s8, m8⟩
      have ndk : ((wds c0 c1 a b n).map Prod.fst).Nodup := wds_nd hc n
      have l8 := bdl n (Nat.le_refl n)
      have hzs : z.length = 2 := by show z.cps.size = 2; rw [hz]; rfl
      refine ⟨_, rfl, lx, rfl, ⟨_, .inl (.inl hlx)⟩, for_list (xs := ((wds c0 c1 a b n).map Prod.fst).map V.str) (fun i σ H' => ∃ (o6 o7 o8 o9 : Option V), σ = [some (.ref p), some (.ref d), some (.ref lx), some (.str z), some (.ref rw'), some (.int n), o6, o7, o8, o9, none, none] ∧
        Lt H' lx ((wds c0 c1 a b n).map Prod.fst) ∧ H' d = some (.dK (skv V.int ((wds c0 c1 a b n).take i))) ∧ H' rw' = some (.lst [.int a, .int b]) ∧ Sm p H H') ⟨_, _, _, _, rfl, hlx, hd6, hrw6, m8⟩ ?_ ?_ ?_⟩
      · rintro i σ H' _ ⟨o6, o7, o8, o9, rfl, h, _⟩
        exact .inl (.inl h)
      · rintro i y σ H7 hy ⟨o6, o7, o8, o9, rfl, hlx7, hd7, hrw7, m9⟩
        obtain ⟨t, ht, rfl⟩ := lt_map hy
        obtain ⟨v, he⟩ := fst_at ht
        have hmem := List.mem_of_getElem? he
        have hil : i < (wds c0 c1 a b n).length := (List.getElem?_eq_some_iff.mp he).1
        obtain ⟨hpr, hcs⟩ := wds_pr hc n _ hmem
        have tl : t.length = n := wds_t n _ hmem
        have hnew : ¬ t ∈ ((wds c0 c1 a b n).take i).map Prod.fst := by
          intro m
          have n1 : (((wds c0 c1 a b n).take (i + 1)).map Prod.fst).Nodup := (List.Sublist.map _ (List.take_sublist _ _)).nodup ndk
          rw [take_snoc he, List.map_append] at n1
          exact (List.nodup_append.mp n1).2.2 _ m _ (by simp) rfl
        refine ⟨_, rfl, _, rfl, d, _, rfl, .inl ⟨_, Sum.inr t, hd7, rfl, small1000 (by rw [skv_len, List.length_take]; omega), rfl⟩, ?_⟩
        have dlx : lx ≠ d := ne_of hlx7 hd7 fun z => by cases z
        have drw : rw' ≠ d := ne_of hrw7 hd7 fun z => by cases z
        rw [skv_put (f := V.int) 1 hnew]
        refine ⟨_, rfl, t, rfl, for_it (walk_str (z := t)) (fun j σ H' => ∃ (o9 : Option V), σ = [some (.ref p), some (.ref d), some (.ref lx), some (.str z), some (.ref rw'), some (.int n), o6, o7, some (.str t), o9, none, none] ∧
          Lt H' lx ((wds c0 c1 a b n).map Prod.fst) ∧ H' d = some (.dK (skv V.int ((wds c0 c1 a b n).take i ++ [(t, pr c0 a b (t.cps.toList.take j))]))) ∧ H' rw' = some (.lst [.int a, .int b]) ∧ Sm p H H')
          ⟨o9, rfl, upd_to hlx7 dlx, upd_same, upd_to hrw7 drw, m9.upd nd⟩ (fun _ _ _ _ _ => trivial) ?_ ?_⟩
        · rintro j y σ H8 H8' hj ⟨o9, rfl, hlx8, hd8, hrw8, m10⟩ ⟨rfl, c, hcj, rfl⟩
          have hcj' : t.cps.toList[j]? = some c := by rw [Array.getElem?_toList]; exact hcj
          have bdp : Bd 8000 (pr c0 a b (t.cps.toList.take j)) := (pr_bd ha hb _).mono (by
            have : (t.cps.toList.take j).length ≤ t.length := by rw [List.length_take, Array.length_toList]; exact Nat.min_le_right _ _
            omega)
          have sm : ∀ {i : Int}, i.natAbs < 2 ^ 5 → Bd 8000 i := fun h => Nat.lt_of_lt_of_le h (Nat.pow_le_pow_right (by decide) (by decide))
          have dg : DGet H8' d (.str t) (some (.int (pr c0 a b (t.cps.toList.take j)))) := by
            refine .inl ⟨_, Sum.inr t, .inl hd8, rfl, ?_⟩
            rw [skv_get]
            have : ((wds c0 c1 a b n).take i ++ [(t, pr c0 a b (t.cps.toList.take j))]).lookup t = some (pr c0 a b (t.cps.toList.take j)) := by
              refine lookup_some ?_ (by simp)
              rw [List.map_append]
              exact nd_snoc ((List.Sublist.map _ (List.take_sublist _ _)).nodup ndk) hnew
            rw [this] <;> rfl
          have key : ∃ (ix : Nat) (rest : List Nat) (q : Int), Builtin.Str.occurrences z ⟨#[c]⟩ 0 z.length 1 = ix :: rest ∧ atI [V.int a, V.int b] (ix : Int) = some (.int q) ∧ q = (if c = c0 then a else b) ∧ 1 ≤ q ∧ q ≤ 9 := by
            rcases hcs c (List.mem_of_getElem? hcj') with rfl | rfl
            · exact ⟨0, r0, a, oc0, rfl, by rw [if_pos rfl], ha.1, ha.2⟩
            · exact ⟨1, r1, b, oc1, rfl, by rw [if_neg (Ne.symm hc)], hb.1, hb.2⟩
          obtain ⟨ix, rest, q, oc, ea, eq, q1, q9⟩ := key
          refine ⟨_, rfl, _, rfl, d, _, rfl, dg, _, rfl, _, rfl, rfl, _, rfl, z, ⟨#[c]⟩, ix, rest, rfl, rfl, oc, rw', _, _, _, rfl, rfl, .inl (.inl hrw8), ea, _, _, rfl, rfl, mulW_of bdp (sm (by omega)), ?_⟩
          refine ⟨_, rfl, _, rfl, d, _, rfl, .inl ⟨_, Sum.inr t, hd8, rfl, small1000 (by rw [skv_len, List.length_append, List.length_take]; show _ + 1 ≤ _; omega), rfl⟩, ?_⟩
          have e2 : putK (skv V.int ((wds c0 c1 a b n).take i ++ [(t, pr c0 a b (t.cps.toList.take j))])) (Sum.inr t) (V.int (pr c0 a b (t.cps.toList.take j) * q)) = skv V.int ((wds c0 c1 a b n).take i ++ [(t, pr c0 a b (t.cps.toList.take (j + 1)))]) := by
            rw [take_snoc hcj', pr_snoc, ← eq]
            exact skv_put_last (f := V.int) _ _ hnew
          refine ⟨_, rfl, upd_to hlx8 dlx, ?_, upd_to hrw8 drw, m10.upd nd⟩
          exact upd_same.trans (congrArg (fun kvs => some (HO.dK kvs)) e2)
        · rintro σ H8 ⟨o9, rfl, hlx8, hd8, hrw8, m10⟩
          refine ⟨_, _, _, _, rfl, hlx8, ?_, hrw8, m10⟩
          have e2 : t.cps.toList.take t.cps.size = t.cps.toList := by rw [← Array.length_toList]; exact List.take_length
          rw [hd8, e2, hpr, take_snoc he]
      · rintro σ H7 ⟨o6, o7, o8, o9, rfl, hlx7, hd7, hrw7, m9⟩
        rw [List.length_map, List.length_map, List.take_length] at hd7
        have free : ∀ {q : Addr} {H' : Hp}, Same H7 H' → H' q = none → q ≠ p → H q = none := fun {q H'} s e hp => by
          cases e2 : H q with
          | none => rfl
          | some o => rw [s _ _ (m9 _ _ hp e2)] at e; cases e
        refine ⟨_, rfl, _, rfl, rw', _, _, _, rfl, rfl, .inl (.inl hrw7), rfl, by show 2 ≤ sizeLine; decide, fun t0 nt0 => ?_⟩
        refine ⟨_, rfl, rw', _, _, _, rfl, rfl, .inl (.inl (upd_at hrw7 nt0)), rfl, by show 2 ≤ sizeLine; decide, fun t1 nt1 => ?_⟩
        refine ⟨by show 2 ≤ sizeLine; decide, fun l0 nl0 => ⟨by show 1 ≤ sizeLine; decide, fun l nl => ⟨_, rfl, ?_⟩⟩⟩
        refine fun x dx nx ndx nex => ?_
        have sl := same_new (o := .lst [.ref l0]) nl
        have sx : Same _ _ := (((same_new (o := .tup [.int a, .int 0]) nt0).trans (same_new (o := .tup [.int b, .int 0]) nt1)).trans (same_new (o := .lst [.ref t0, .ref t1]) nl0)).trans sl
        have toX : ∀ {y : Addr} {o u v : HO}, (upd (upd (upd (upd H7 t0 (.tup [.int a, .int 0])) t1 (.tup [.int b, .int 0])) l0 (.lst [.ref t0, .ref t1])) l (.lst [.ref l0])) y = some o →
            (upd (upd (upd (upd (upd (upd H7 t0 (.tup [.int a, .int 0])) t1 (.tup [.int b, .int 0])) l0 (.lst [.ref t0, .ref t1])) l (.lst [.ref l0])) dx u) x v) y = some o := fun h => by
          rw [upd_ne (ne_of_none h nx), upd_ne (ne_of_none h ndx)]
          exact h
        refine ⟨x, dx, l, l0, t0, t1, z, c0, c1, a, b, n, rfl, upd_same, hz, hc, toX upd_same, toX (upd_at upd_same nl), toX (upd_at (upd_at (upd_at upd_same nt1) nl0) nl), toX (upd_at (upd_at upd_same nl0) nl), ha.1, ha.2, hb.1, hb.2, by omega, ?_⟩
        rintro wa H' fs mx hx' f1 f2 f3 f4 hwa
        refine ⟨rfl, _, rfl, by show 2 ≤ sizeLine; decide, fun t nt => ?_⟩
        have sum := wds_sum (c0 := c0) (c1 := c1) (a := a) (b := b) n
        have old : ∀ {y : Addr} {o : HO}, H7 y = some o → H' y = some o := fun {y o} h => by
          have h1 := sx _ _ h
          exact mx _ _ (ne_of_none h1 nx) (toX h1)
        have h9 : (9 : Int) ^ n ≤ 10 ^ 40 := by
          have h1 : (9 : Nat) ^ n ≤ 9 ^ 3 := Nat.pow_le_pow_right (by decide) (show n ≤ 3 by omega)
          have h2 : (9 : Int) ^ n ≤ 9 ^ 3 := by exact_mod_cast h1
          have h3 : (9 : Int) ^ 3 ≤ 10 ^ 40 := by decide
          omega
        refine hq t x d (wds c0 c1 a b n) _ ⟨wds_nd hc n, fun e he => ?_, ⟨by rw [wds_len]; exact Nat.pow_pos (by decide), by omega⟩, fun e he => ?_⟩ upd_same ?_ (upd_at (old hd7) nt) ?_
        · have := wds_pos (c0 := c0) (c1 := c1) ha hb n e he
          omega
        · have := wds_t n e he
          omega
        · exact ⟨_, dx, wa, fs, .inr rfl, upd_at hx' nt, f1, by rw [f2, sum], f3, f4, upd_at hwa nt⟩
        · intro y o hy e
          have e7 := m9 _ _ hy e
          exact upd_at (old e7) nt
  · have hd1 : H1 d = some (.dK []) := m1 _ _ dp upd_same
    have m1 := m0.trans m1
    refine ⟨by show 4 ≤ sizeLine; decide, fun l4 nl4 => ?_⟩
    have l4p := s1.ne nl4
    refine ⟨_, rfl, p, _, rfl, by decide, by decide, s1.new nl4, fun g H2 g0 g1 s2 m2 => ?_⟩
    obtain ⟨tp, etp, tp0, tp1⟩ := top_ix g g0 g1
    refine ⟨l4, _, _, _, rfl, rfl, .inl (.inl (m2 _ _ l4p upd_same)), etp, ?_⟩
    have hd2 : H2 d = some (.dK []) := m2 _ _ dp (upd_at hd1 nl4)
    have m2 := (m1.upd (o := .lst [.int 6, .int 6, .int 1000, .int 0]) (sm_free m1 s1 nl4)).trans m2
    refine ⟨_, rfl, by show 2 ≤ sizeLine; decide, fun l2 nl2 => ?_⟩
    have l2p := s2.ne nl2
    refine ⟨_, rfl, p, _, rfl, by decide, by decide, s2.new nl2, fun e8 H3 e80 e81 s3 m3 => .inl ⟨_, rfl, _, _, rfl, rfl, ⟨by decide, by decide⟩, l2, _, _, _, rfl, rfl, .inl (.inl (m3 _ _ l2p upd_same)), two_ix 6 24 e8 e80 e81, ?_⟩⟩
    have hd3 : H3 d = some (.dK []) := m3 _ _ dp (upd_at hd2 nl2)
    have m3 := (m2.upd (o := .lst [.int 6, .int 24]) (sm_free m2 s2 nl2)).trans m3
    have mb : 6 ≤ (if e8 = 7 then (24 : Int) else 6) ∧ (if e8 = 7 then (24 : Int) else 6) ≤ 24 := by split <;> omega
    refine ⟨p, _, rfl, by omega, by omega, s3, fun my H4 my0 my1 s4 m4 => ⟨_, _, rfl, rfl, ?_⟩⟩
    have hd4 : H4 d = some (.dK []) := m4 _ _ dp hd3
    have m4 := m3.trans m4
    obtain ⟨my, rfl⟩ := Int.eq_ofNat_of_zero_le my0
    have my24 : my + 1 ≤ 24 := by omega
    refine ⟨_, rfl, _, rfl, p, my + 1, by show [V.ref p, V.int ((1 : Int) + ((my : Nat) : Int))] = _; rw [show (1 : Int) + ((my : Nat) : Int) = ((my + 1 : Nat) : Int) by omega], by omega, s4, fun lt ts H5 tl tz tnd t10 nlt hlt s5 m5 => ?_⟩
    have hd5 : H5 d = some (.dK []) := m5 _ _ dp hd4
    have m5 := m4.trans m5
    have tsz := tz (by omega)
    have ltp := st3_ne s5 hlt
    refine ⟨lt, rfl, ⟨_, .inl (.inl hlt)⟩, for_list (xs := ts.map V.str) (fun i σ H' => ∃ (W : List (Str × Int)) (o8 : Option V), σ = [some (.ref p), some (.ref d), none, none, none, none, none, none, o8, none, some (.int tp), some (.int (1 + (my : Nat)))] ∧ W.map Prod.fst = ts.take i ∧ (∀ e ∈ W, 1 ≤ e.2 ∧ e.2 ≤ 10 ^ 40) ∧
      H' d = some (.dK (skv V.int W)) ∧ Lt H' lt ts ∧ St3 p H' ∧ Sm p H H') ⟨[], none, rfl, rfl, fun e h => (by cases h), hd5, hlt, s5, m5⟩ ?_ ?_ ?_⟩
    · rintro i σ H' _ ⟨W, o8, rfl, _, _, _, h, _⟩
      exact .inl (.inl h)
    · rintro i y σ H6 hy ⟨W, o8, rfl, hW, hpos, hd6, hlt6, s6, m6⟩
      obtain ⟨t, ht, rfl⟩ := lt_map hy
      have hil : i < ts.length := (List.getElem?_eq_some_iff.mp ht).1
      have hWl : W.length ≤ 24 := by
        have := congrArg List.length hW
        rw [List.length_map, List.length_take] at this
        omega
      have hnew : ¬ t ∈ W.map Prod.fst := by
        rw [hW]
        intro m
        have n1 : (ts.take (i + 1)).Nodup := (List.take_sublist _ _).nodup tnd
        rw [take_snoc ht] at n1
        exact (List.nodup_append.mp n1).2.2 _ m _ (by simp) rfl
      refine ⟨_, rfl, _, rfl, p, tp, rfl, tp0, tp1, s6, fun v H7 v0 v1 s7 m7 => ?_⟩
      have hd7 : H7 d = some (.dK (skv V.int W)) := m7 _ _ dp hd6
      have hlt7 : Lt H7 lt ts := m7 _ _ ltp hlt6
      refine ⟨_, rfl, _, rfl, d, _, rfl, .inl ⟨_, Sum.inr t, hd7, rfl, small1000 (by rw [skv_len]; omega), rfl⟩, ?_⟩
      rw [skv_put (f := V.int) v hnew]
      refine ⟨W ++ [(t, v)], _, rfl, ?_, fun e he => ?_, upd_same, upd_to hlt7 (ne_of hlt7 hd7 fun z => by cases z), s7.to (Ne.symm dp), (m6.trans m7).upd nd⟩
      · rw [List.map_append, hW, take_snoc ht]
        rfl
      · rcases List.mem_append.mp he with he | he
        · exact hpos e he
        · rw [List.mem_singleton.mp he]
          exact ⟨v0, v1⟩
    · rintro σ H6 ⟨W, o8, rfl, hW, hpos, hd6, hlt6, s6, m6⟩
      rw [List.length_map, List.take_length] at hW
      have hWl : W.length = ts.length := by
        have := congrArg List.length hW
        rw [List.length_map] at this
        exact this
      have hWn : (W.map Prod.fst).Nodup := by rw [hW]; exact tnd
      refine ⟨d, _, hd6, trivial, fun od => ?_⟩
      refine ⟨_, rfl, d, od, rfl, .inl ⟨_, upd_same, fun D nD => ?_⟩⟩
      have dD : d ≠ D := fun e => by rw [← e, upd_same] at nD; cases nD
      have nD6 : H6 D = none := by rw [upd_ne (Ne.symm dD)] at nD; exact nD
      refine lc_it (walk_keys (d := d) (o := od) (kvs := skv V.int W)) (fun j H' => ∃ as : List Addr, H' D = some (.lst (as.map V.ref)) ∧ All2 (fun a e => H' a = some (.tup [.str e.1, .int e.2])) as (W.take j) ∧ H' d = some (.frz od (.dK (skv V.int W))) ∧ Sm d H6 H' )
        ⟨[], upd_same, All2.nil, upd_at upd_same nD, (Sm.at (Sm.refl d H6)).upd nD6⟩ ?_ ?_ ?_
      · rintro j H' _ ⟨as, _, _, h, _⟩
        exact h
      · rintro j y H7 H7' hj ⟨as, hD, has, hd7, m7⟩ ⟨rfl, k, v, hkv, rfl⟩
        rw [skv_len] at hj
        have eW : W[j]? = some W[j] := List.getElem?_eq_getElem hj
        rw [skv_at eW] at hkv
        generalize W[j] = e at eW hkv
        cases hkv
        have hm := List.mem_of_getElem? eW
        refine ⟨rfl, _, rfl, _, rfl, _, rfl, d, .int e.2, rfl, .inl ⟨_, Sum.inr e.1, .inr ⟨od, hd7⟩, rfl, (skv_some hWn hm).symm⟩, by show 2 ≤ sizeLine; decide, fun T nT => ?_⟩
        have TD : T ≠ D := fun e => by rw [e, hD] at nT; cases nT
        have hD8 := upd_at (o := .tup [.str e.1, .int e.2]) hD nT
        refine ⟨_, hD8, small1000 (by rw [List.length_map, has.1, List.length_take]; omega), as ++ [T], ?_, ?_, upd_to (upd_at hd7 nT) dD, ?_⟩
        · rw [upd_same]
          simp
        · rw [take_snoc eW]
          refine All2.snoc (has.mono fun a e ha => upd_to (upd_at ha nT) (ne_of ha hD fun z => by cases z)) ?_
          rw [upd_ne TD]
          exact upd_same
        · have nT6 : H6 T = none := (smx_free m7 hd7 nT).1
          exact (m7.upd nT6).upd nD6
      · rintro H7 ⟨as, hD, has, hd7, m7⟩
        rw [skv_len, List.take_length] at has
        have hD8 := upd_to (o := .dK (skv V.int W)) hD (Ne.symm dD)
        refine ⟨hd7, fun x dx nx ndx nex => ?_⟩
        have toX : ∀ {y : Addr} {o u v : HO}, (upd H7 d (.dK (skv V.int W))) y = some o → (upd (upd (upd H7 d (.dK (skv V.int W))) dx u) x v) y = some o := fun h => by
          rw [upd_ne (ne_of_none h nx), upd_ne (ne_of_none h ndx)]
          exact h
        refine ⟨x, dx, D, W, rfl, upd_same, ⟨as, toX hD8, has.mono fun a e ha => toX (upd_to ha (ne_of ha hd7 fun z => by cases z))⟩, hWn, fun e he => (hpos e he).1, by omega, fun H8 wa k8 hx8 hwa => ⟨rfl, _, rfl, by show 2 ≤ sizeLine; decide, fun t nt => ?_⟩⟩
        have hd8 : H8 d = some (.dK (skv V.int W)) := k8 _ _ (ne_of_none upd_same nx) (toX upd_same)
        have tl0 : 1 ≤ ts.length := by
          cases ts with
          | nil => exact absurd rfl tsz
          | cons a r => rw [List.length_cons]; omega
        refine hq t x d W _ ⟨hWn, hpos, by omega, fun e he => t10 e.1 (by rw [← hW]; exact List.mem_map.mpr ⟨e, he, rfl⟩)⟩ upd_same ?_ (upd_at hd8 nt) ?_
        · exact ⟨_, dx, wa, _, .inl rfl, upd_at hx8 nt, rfl, rfl, rfl, rfl, upd_at hwa nt⟩
        · intro y o hy e
          have e6 := m6 _ _ hy e
          have yd : y ≠ d := fun z => by rw [z, nd] at e; cases e
          have e7 := upd_to (o := .dK (skv V.int W)) (m7 _ _ yd e6) yd
          exact upd_at (k8 _ _ (ne_of_none e7 nx) (toX e7)) nt
end Km
end

section
set_option Elab.async false
set_option linter.all false
set_option maxRecDepth 100000
set_option maxHeartbeats 4000000
set_option pp.maxSteps 700
/-! What may be read, and finders, as the law draws them. -/
namespace Km
open PySem PySem.Spec PyProof.Rows L2
theorem len_sub {α : Type} [DecidableEq α] : ∀ {xs ys : List α}, xs.Nodup → (∀ x ∈ xs, x ∈ ys) → xs.length ≤ ys.length
  | [], _, _, _ => Nat.zero_le _
  | x :: r, ys, h, s => by
    obtain ⟨h1, h2⟩ := List.nodup_cons.mp h
    have hx := s x List.mem_cons_self
    have := len_sub (xs := r) (ys := ys.erase x) h2 fun y hy => (List.mem_erase_of_ne (fun e => h1 (by rw [← e]; exact hy))).mpr (s y (List.mem_cons_of_mem _ hy))
    rw [List.length_erase_of_mem hx] at this
    have := List.length_pos_of_mem hx
    rw [List.length_cons]
    omega
theorem Lt.sm {p a : Addr} {H H' : Hp} {ts : List Str} (h : Lt H a ts) (m : Sm p H H') (n : a ≠ p) : Lt H' a ts := m _ _ n h
/-- lists of texts by text -/
def RL (H : Hp) (L : List (Str × Addr)) (R : List (Str × List Str)) : Prop := All2 (fun e r => e.1 = r.1 ∧ Lt H e.2 r.2) L R
def Rdb (H : Hp) (d : Addr) (R : List (Str × List Str)) : Prop := ∃ L, H d = some (.dK (skv V.ref L)) ∧ RL H L R
theorem RL.keys {H : Hp} {L : List (Str × Addr)} {R : List (Str × List Str)} (h : RL H L R) : L.map Prod.fst = R.map Prod.fst := by
  apply List.ext_getElem?
  intro i
  rw [List.getElem?_map, List.getElem?_map]
  cases e : L[i]? with
  | none =>
    have : R[i]? = none := by rw [List.getElem?_eq_none_iff] at e ⊢; rw [← h.1]; exact e
    rw [this] <;> rfl
  | some x =>
    obtain ⟨y, hy, g, _⟩ := h.r e
    rw [hy]
    show some x.1 = some y.1
    rw [g]
theorem RL.get {H : Hp} {L : List (Str × Addr)} {R : List (Str × List Str)} {r : Str × List Str} (h : RL H L R) (nd : (R.map Prod.fst).Nodup) (hr : r ∈ R) : ∃ a, valV (skv V.ref L) (.inr r.1) = some (.ref a) ∧ Lt H a r.2 := by
  obtain ⟨i, hi, rfl⟩ := List.mem_iff_getElem.mp hr
  obtain ⟨e, he, g1, g2⟩ := h.l (List.getElem?_eq_getElem hi)
  refine ⟨e.2, ?_, g2⟩
  rw [← g1]
  exact skv_some (f := V.ref) (x := e.2) (by rw [h.keys]; exact nd) (List.mem_of_getElem? he)
theorem RL.same {H H' : Hp} {L : List (Str × Addr)} {R : List (Str × List Str)} (h : RL H L R) (s : Same H H') : RL H' L R := h.mono fun e r ⟨a, b⟩ => ⟨a, s _ _ b⟩
theorem RL.sm {p : Addr} {H H' : Hp} {L : List (Str × Addr)} {R : List (Str × List Str)} (h : RL H L R) (m : Sm p H H') (h3 : St3 p H) : RL H' L R := h.mono fun e r ⟨a, b⟩ => ⟨a, m _ _ (st3_ne h3 b) b⟩
theorem RL.dict {H : Hp} {q : Addr} {o u : HO} {L : List (Str × Addr)} {R : List (Str × List Str)} (h : RL H L R) (n : H q = some u) (hu : ∀ xs, u ≠ .lst xs) : RL (upd H q o) L R :=
  h.mono fun e v ⟨a, b⟩ => ⟨a, upd_to b (ne_of (show H e.2 = _ from b) n fun z => hu _ z.symm)⟩
theorem Rdb.same {H H' : Hp} {d : Addr} {R : List (Str × List Str)} (h : Rdb H d R) (s : Same H H') : Rdb H' d R := let ⟨L, a, b⟩ := h; ⟨L, s _ _ a, b.same s⟩
/-- as the law draws them -/
def ROk (os : List Str) (R : List (Str × List Str)) : Prop := ∀ r ∈ R, r.1 ∈ r.2 ∧ r.2.Nodup ∧ ∀ t ∈ r.2, t ∈ os
variable {P : Program} {w : World} {K : PySem.W.Frag} {mg : Str → Option Value} {base : Heap}
def spReadable : Sp := fun vs H Q _ => ∃ (p wa : Addr) (W : List (Str × Int)), vs = [.ref p, .ref wa] ∧ St3 p H ∧ H wa = some (.dK (skv V.int W)) ∧ WOk W ∧
  ∀ t d lo R os H', H' t = some (.tup [.ref d, .ref lo]) → Rdb H' d R → Lt H' lo os → R.map Prod.fst = W.map Prod.fst → ROk os R → os.Nodup → os.length ≤ 40 → Sm p H H' → Q (.ref t) H'
abbrev N_law_readable : List PySem.Str := ["_law_stream_here", "_law_weights", "_law_texts", "_law_others", "_law_text_here", "_law_readable_here", "_law_other"]
theorem sc_law_readable : FnScope N_law_readable ["_law_stream_here", "_law_weights"] (defScope s_law_readable) := ⟨rfl, rfl, rfl, by decide +kernel, rfl, by decide +kernel, by decide +kernel⟩
theorem ok_readable (fx : Fx K mg) : Cal P w K mg base CX0 4 "_law_readable" ["_law_stream_here", "_law_weights"] spReadable := by
  have cal_law_draw : Cal P w K mg base CX0 1 "_law_draw" ["_law_stream_here", "_law_many"] spDraw := ok_draw fx
  have cal_law_part : Cal P w K mg base CX0 2 "_law_part" ["_law_stream_here", "_law_texts"] spPart := ok_part fx
  have cal_law_pool : Cal P w K mg base CX0 3 "_law_pool" ["_law_stream_here", "_law_many"] spPool := ok_pool fx
  refine Cal.of (st := s_law_readable) fx.g_law_readable fx.fd_law_readable sc_law_readable (fun _ _ _ _ _ _ _ us hl => match us, hl with | [_, _], _ => rfl) (fun vs H Q E h => by obtain ⟨p, wa, W, rfl, _⟩ := h; rfl) fun f cdv A outer s H vs Q E hr h => ⟨_, PSs.nox (pss_cons (ps_set (i := 2) sc_law_readable.nd rfl (.inr rfl) (pe_callTy (call_list_dK rfl) rfl fx.f_list boot_list (pa_cons (pv 1) pa_nil))) (pss_cons (ps_set (i := 3) sc_law_readable.nd rfl (.inl rfl) (pe_op op_cat (pv 2) (pe_lc (own := [("_law_text_here", 4)]) rfl sc_law_readable.nd (pi_listK (K := K) rfl (pe_c cal_law_pool hr (by decide) rfl pass0 (pa_cons (pv 0) (pa_cons (pe_c cal_law_draw hr (by decide) rfl pass0 (pa_cons (pv 0) (pa_cons pe_int pa_nil))) pa_nil)))) (blkOk_by (N := N_law_readable) (sc := defScope s_law_readable) (by decide +kernel)) (fun _ _ _ _ _ => (pg_name (i := 4) sc_law_readable.nd rfl (.inl rfl))) (fun _ _ _ _ _ => (pts_one (pt_cmpR (op_notIn_seqK (K := K) rfl) (pv 4) (pv 2) rfl))) (fun _ _ _ _ _ => (pv 4))))) (pss_cons (ps_set (i := 5) sc_law_readable.nd rfl (.inl rfl) pe_dnewK) (pss_cons (ps_for PassesOwn.never rfl (pi_listK (K := K) rfl (pv 2)) (pg_name (i := 4) sc_law_readable.nd rfl (.inr rfl)) (pss_cons (ps_dput (hu_of hr) (pv 5) (pv 4) (pe_lst (pa_cons (pv 4) pa_nil)) rfl) (pss_one (ps_if (pt_cmpR op_gt (pe_c cal_law_draw hr (by decide) rfl pass0 (pa_cons (pv 0) (pa_cons pe_int pa_nil))) pe_int (nomark _)) (pss_one (ps_dput (hu_of hr) (pv 5) (pv 4) (pe_op op_cat (pe_lst (pa_cons (pv 4) pa_nil)) (pe_lc (own := [("_law_other", 6)]) rfl sc_law_readable.nd (pi_listK (K := K) rfl (pe_c cal_law_part hr (by decide) rfl pass0 (pa_cons (pv 0) (pa_cons (pv 3) pa_nil)))) (blkOk_by (N := N_law_readable) (sc := defScope s_law_readable) (by decide +kernel)) (fun _ _ _ _ _ => (pg_name (i := 6) sc_law_readable.nd rfl (.inl rfl))) (fun _ _ _ _ _ => (pts_one (pt_cmpR op_ne (pv 6) (pv 4) (nomark _)))) (fun _ _ _ _ _ => (pv 6)))) rfl)) pss_nil)))) (pss_one (ps_ret (pe_tup (pa_cons (pv 5) (pa_cons (pv 3) pa_nil))))))))), ?_⟩
  obtain ⟨p, wa, W, rfl, h3, hwa, ok, hq⟩ := h
  have hwl := ok.len
  have wap : wa ≠ p := fun e => by obtain ⟨x, y, z, h⟩ := h3; rw [← e, hwa] at h; cases h
  refine ⟨_, rfl, wa, _, rfl, hwa, fun tx ntx => ?_⟩
  have htx : Lt (upd H tx (.lst ((skv V.int W).map fun kv => kV kv.1))) tx (W.map Prod.fst) := by
    show upd H tx _ tx = _
    rw [upd_same]
    simp [skv, kV]
  have s0 := h3.new (o := .lst ((skv V.int W).map fun kv => kV kv.1)) ntx
  have m0 : Sm p H (upd H tx (.lst ((skv V.int W).map fun kv => kV kv.1))) := Sm.of (same_new ntx)
  have txp := h3.ne ntx
  refine ⟨_, rfl, _, rfl, _, rfl, p, _, rfl, by decide, by decide, s0, fun k H1 k0 k1 s1 m1 => ?_⟩
  have htx1 : Lt H1 tx (W.map Prod.fst) := m1 _ _ txp htx
  have m1 := m0.trans m1
  obtain ⟨k, rfl⟩ := Int.eq_ofNat_of_zero_le k0
  refine ⟨p, k, rfl, by omega, s1, fun pl ps H2 pl0 _ pnd p10 npl hpl s2 m2 => ?_⟩
  have htx2 : Lt H2 tx (W.map Prod.fst) := m2 _ _ txp htx1
  have m2 := m1.trans m2
  have plp := st3_ne s2 hpl
  refine ⟨pl, rfl, ⟨_, .inl (.inl hpl)⟩, fun D nD => ?_⟩
  have nDH := sm_free m2 s2 nD
  refine lc_list (xs := ps.map V.str) (fun i H' => ∃ xs : List Str, H' = upd H2 D (.lst (xs.map V.str)) ∧ xs.Sublist (ps.take i) ∧ ∀ t ∈ xs, ¬ t ∈ W.map Prod.fst) ⟨[], rfl, List.nil_sublist _, fun t h => (by cases h)⟩ ?_ ?_ ?_
  · rintro i H' _ ⟨xs, rfl, _⟩
    exact .inl (.inl (upd_at hpl nD))
  · rintro i y H' hy ⟨xs, rfl, hxs, hout⟩
    obtain ⟨t, ht, rfl⟩ := lt_map hy
    have hxl := hxs.length_le
    rw [List.length_take] at hxl
    have hil : i < ps.length := (List.getElem?_eq_some_iff.mp ht).1
    refine ⟨rfl, _, rfl, _, rfl, tx, _, rfl, .inl (.inl (.inl (upd_at htx2 nD))), rfl, flat_strs _, _, rfl, ?_⟩
    rw [if_pos rfl, inV_str]
    cases hin : decide (t ∈ W.map Prod.fst) with
    | true => exact iteF ⟨xs, rfl, by rw [take_snoc ht]; exact hxs.trans (List.sublist_append_left _ _), hout⟩
    | false =>
      have hin : ¬ t ∈ W.map Prod.fst := of_decide_eq_false hin
      refine iteT ⟨_, rfl, _, upd_same, small1000 (by rw [List.length_map]; omega), xs ++ [t], ?_, by rw [take_snoc ht]; exact hxs.append (List.Sublist.refl _), fun t' h' => ?_⟩
      · rw [upd_upd, map_snoc]
      · rcases List.mem_append.mp h' with h' | h'
        · exact hout _ h'
        · rw [List.mem_singleton.mp h']
          exact hin
  rintro H' ⟨xs, rfl, hxs, hout⟩
  rw [List.length_map, List.take_length] at hxs
  have hxl := hxs.length_le
  have xnd := hxs.nodup pnd
  have txD : tx ≠ D := fun e => by rw [← e, show H2 tx = _ from htx2] at nD; cases nD
  refine ⟨tx, D, _, _, rfl, rfl, upd_at htx2 nD, upd_same, line16 (by rw [List.length_map, List.length_map, List.length_map]; omega), fun lo nlo => ?_⟩
  have s3 := s2.new (o := .lst (xs.map V.str)) nD
  have m3 : Sm p H (upd H2 D (.lst (xs.map V.str))) := m2.upd nDH
  have nloH := sm_free m3 s3 nlo
  have s4 := s3.new (o := .lst ((W.map Prod.fst).map V.str ++ xs.map V.str)) nlo
  have m4 : Sm p H (upd (upd H2 D (.lst (xs.map V.str))) lo (.lst ((W.map Prod.fst).map V.str ++ xs.map V.str))) := m3.upd nloH
  have hlo : Lt (upd (upd H2 D (.lst (xs.map V.str))) lo (.lst ((W.map Prod.fst).map V.str ++ xs.map V.str))) lo (W.map Prod.fst ++ xs) := by
    show upd _ lo _ lo = _
    rw [upd_same, ← List.map_append]
  have htx4 := upd_at (o := .lst ((W.map Prod.fst).map V.str ++ xs.map V.str)) (upd_at (o := .lst (xs.map V.str)) htx2 nD) nlo
  have ond : (W.map Prod.fst ++ xs).Nodup := List.nodup_append.mpr ⟨ok.nd, xnd, fun a ha b hb e => hout b hb (by rw [← e]; exact ha)⟩
  generalize hos : W.map Prod.fst ++ xs = os at hlo ond
  have hWos : ∀ t ∈ W.map Prod.fst, t ∈ os := fun t h => by rw [← hos]; exact List.mem_append_left _ h
  have hol : os.length ≤ 40 := by rw [← hos, List.length_append, List.length_map]; omega
  generalize upd (upd H2 D (.lst (xs.map V.str))) lo (.lst ((W.map Prod.fst).map V.str ++ xs.map V.str)) = H4 at s4 m4 hlo htx4
  refine fun d nd => ?_
  have nd0 := sm_free m4 s4 nd
  have lop := st3_ne s4 hlo
  have dp := s4.ne nd
  refine ⟨_, rfl, tx, rfl, ⟨_, .inl (.inl (upd_at htx4 nd))⟩, for_list (xs := (W.map Prod.fst).map V.str) (fun i σ H' => ∃ (o4 : Option V) (L : List (Str × Addr)) (R : List (Str × List Str)), σ = [some (.ref p), some (.ref wa), some (.ref tx), some (.ref lo), o4, some (.ref d), none] ∧
    H' d = some (.dK (skv V.ref L)) ∧ RL H' L R ∧ R.map Prod.fst = (W.map Prod.fst).take i ∧ ROk os R ∧ Lt H' lo os ∧ Lt H' tx (W.map Prod.fst) ∧ St3 p H' ∧ Sm p H H')
    ⟨none, [], [], rfl, upd_same, All2.nil, rfl, fun r h => (by cases h), upd_at hlo nd, upd_at htx4 nd, s4.new nd, m4.upd nd0⟩ ?_ ?_ ?_⟩
  · rintro i σ H' _ ⟨o4, L, R, rfl, _, _, _, _, _, h, _⟩
    exact .inl (.inl h)
  · rintro i y σ H5 hy ⟨o4, L, R, rfl, hd5, hL, hR, hRo, hlo5, htx5, s5, m5⟩
    obtain ⟨t, ht, rfl⟩ := lt_map hy
    have hil : i < (W.map Prod.fst).length := (List.getElem?_eq_some_iff.mp ht).1
    have tos := hWos t (List.mem_of_getElem? ht)
    have hLR := hL.keys
    have hnew : ¬ t ∈ L.map Prod.fst := by
      rw [hLR, hR]
      intro m
      have n1 : ((W.map Prod.fst).take (i + 1)).Nodup := (List.take_sublist _ _).nodup ok.nd
      rw [take_snoc ht] at n1
      exact (List.nodup_append.mp n1).2.2 _ m _ (by simp) rfl
    have hLl : L.length ≤ 24 := by
      have := congrArg List.length (hLR.trans hR)
      rw [List.length_map, List.length_take, List.length_map] at this
      omega
    refine ⟨_, rfl, by show 1 ≤ sizeLine; decide, fun l1 nl1 => ?_⟩
    have nl1H := sm_free m5 s5 nl1
    have hd6 := upd_at (o := .lst [.str t]) hd5 nl1
    have l1d : l1 ≠ d := fun e => by rw [e, hd5] at nl1; cases nl1
    refine ⟨_, rfl, _, rfl, d, _, rfl, .inl ⟨_, Sum.inr t, hd6, rfl, small1000 (by rw [skv_len]; omega), rfl⟩, ?_⟩
    rw [skv_put (f := V.ref) l1 hnew]
    have hd7 : upd (upd H5 l1 (.lst [.str t])) d (.dK (skv V.ref (L ++ [(t, l1)]))) d = some (.dK (skv V.ref (L ++ [(t, l1)]))) := upd_same
    have hl17 : Lt (upd (upd H5 l1 (.lst [.str t])) d (.dK (skv V.ref (L ++ [(t, l1)])))) l1 [t] := upd_to upd_same l1d
    have s7 : St3 p (upd (upd H5 l1 (.lst [.str t])) d (.dK (skv V.ref (L ++ [(t, l1)])))) := (s5.new nl1).to (Ne.symm dp)
    have m7 : Sm p H (upd (upd H5 l1 (.lst [.str t])) d (.dK (skv V.ref (L ++ [(t, l1)])))) := (m5.upd nl1H).upd nd0
    have ded : ∀ {a : Addr} {ts : List Str}, Lt H5 a ts → Lt (upd (upd H5 l1 (.lst [.str t])) d (.dK (skv V.ref (L ++ [(t, l1)])))) a ts := fun {a ts} h => upd_to (upd_at h nl1) (ne_of (show H5 a = _ from h) hd5 fun z => by cases z)
    have hlo7 := ded hlo5
    have htx7 := ded htx5
    have hL7 : RL (upd (upd H5 l1 (.lst [.str t])) d (.dK (skv V.ref (L ++ [(t, l1)])))) L R := hL.mono fun e r ⟨a, b⟩ => ⟨a, ded b⟩
    generalize upd (upd H5 l1 (.lst [.str t])) d (.dK (skv V.ref (L ++ [(t, l1)]))) = H7 at hd7 hl17 s7 m7 hlo7 htx7 hL7
    refine ⟨_, rfl, p, _, rfl, by decide, by decide, s7, fun k H8 k0 k1 s8 m8 => ?_⟩
    have hd8 : H8 d = _ := m8 _ _ dp hd7
    have hlo8 : Lt H8 lo os := m8 _ _ lop hlo7
    have htx8 : Lt H8 tx (W.map Prod.fst) := m8 _ _ txp htx7
    have hl18 : Lt H8 l1 [t] := m8 _ _ (st3_ne s7 hl17) hl17
    have hL8 := hL7.sm m8 s7
    have m8 := m7.trans m8
    have fin : ∀ (H9 : Hp) (l : Addr) (xs : List Str), H9 d = some (.dK (skv V.ref (L ++ [(t, l)]))) → RL H9 L R → Lt H9 l xs → t ∈ xs → xs.Nodup → (∀ u ∈ xs, u ∈ os) → Lt H9 lo os → Lt H9 tx (W.map Prod.fst) → St3 p H9 → Sm p H H9 →
        ∃ (o4 : Option V) (L : List (Str × Addr)) (R : List (Str × List Str)), ([some (.ref p), some (.ref wa), some (.ref tx), some (.ref lo), some (.str t), some (.ref d), none] : L2.St) = [some (.ref p), some (.ref wa), some (.ref tx), some (.ref lo), o4, some (.ref d), none] ∧
          H9 d = some (.dK (skv V.ref L)) ∧ RL H9 L R ∧ R.map Prod.fst = (W.map Prod.fst).take (i + 1) ∧ ROk os R ∧ Lt H9 lo os ∧ Lt H9 tx (W.map Prod.fst) ∧ St3 p H9 ∧ Sm p H H9 := by
      intro H9 l xs e1 e2 e3 e4 e5 e6 e7 e8 e9 e10
      refine ⟨_, L ++ [(t, l)], R ++ [(t, xs)], rfl, e1, All2.snoc e2 ⟨rfl, e3⟩, ?_, fun r hr => ?_, e7, e8, e9, e10⟩
      · rw [List.map_append, hR, take_snoc ht]
        rfl
      · rcases List.mem_append.mp hr with hr | hr
        · exact hRo r hr
        · rw [List.mem_singleton.mp hr]
          exact ⟨e4, e5, e6⟩
    refine ⟨_, _, rfl, rfl, _, rfl, ite2 (fun _ => ?_) fun _ => ?_⟩
    · refine ⟨_, rfl, by show 1 ≤ sizeLine; decide, fun l2 nl2 => ?_⟩
      have nl2H := sm_free m8 s8 nl2
      have l2p := s8.ne nl2
      have l2d : l2 ≠ d := fun e => by rw [e, hd8] at nl2; cases nl2
      refine ⟨_, rfl, _, rfl, p, lo, os, rfl, s8.new nl2, upd_at hlo8 nl2, by omega, fun l xs H9 xl xin xnd' nl hl s9 m9 => ?_⟩
      have hd9 : H9 d = _ := m9 _ _ dp (upd_at hd8 nl2)
      have hl29 : H9 l2 = some (.lst [.str t]) := m9 _ _ l2p upd_same
      have hlo9 : Lt H9 lo os := m9 _ _ lop (upd_at hlo8 nl2)
      have htx9 : Lt H9 tx (W.map Prod.fst) := m9 _ _ txp (upd_at htx8 nl2)
      have hL9 := (hL8.same (same_new (o := .lst [.str t]) nl2)).sm m9 (s8.new nl2)
      have m9 : Sm p H H9 := (m8.upd nl2H).trans m9
      have xnd := xnd' ond
      refine ⟨l, rfl, ⟨_, .inl (.inl hl)⟩, fun D nD => ?_⟩
      have nDH := sm_free m9 s9 nD
      refine lc_list (xs := xs.map V.str) (fun i H' => ∃ zs : List Str, H' = upd H9 D (.lst (zs.map V.str)) ∧ zs.Sublist (xs.take i) ∧ ∀ u ∈ zs, u ≠ t) ⟨[], rfl, List.nil_sublist _, fun t h => (by cases h)⟩ ?_ ?_ ?_
      · rintro j H' _ ⟨zs, rfl, _⟩
        exact .inl (.inl (upd_at hl nD))
      · rintro j y H' hy ⟨zs, rfl, hzs, hout⟩
        obtain ⟨u, hu, rfl⟩ := lt_map hy
        have hzl := hzs.length_le
        rw [List.length_take] at hzl
        refine ⟨rfl, _, rfl, _, rfl, rfl, _, rfl, ?_⟩
        cases hin : decide (V.str u = V.str t) with
        | true => exact iteF ⟨zs, rfl, by rw [take_snoc hu]; exact hzs.trans (List.sublist_append_left _ _), hout⟩
        | false =>
          have hin : u ≠ t := fun e => of_decide_eq_false hin (congrArg V.str e)
          refine iteT ⟨_, rfl, _, upd_same, small1000 (by rw [List.length_map]; omega), zs ++ [u], ?_, by rw [take_snoc hu]; exact hzs.append (List.Sublist.refl _), fun t' h' => ?_⟩
          · rw [upd_upd, map_snoc]
          · rcases List.mem_append.mp h' with h' | h'
            · exact hout _ h'
            · rw [List.mem_singleton.mp h']
              exact hin
      rintro H' ⟨zs, rfl, hzs, hout⟩
      rw [List.length_map, List.take_length] at hzs
      have hzl := hzs.length_le
      have l2D : l2 ≠ D := fun e => by rw [e, nD] at hl29; cases hl29
      refine ⟨l2, D, _, _, rfl, rfl, upd_at hl29 nD, upd_same, line16 (by rw [List.length_map]; show 1 + _ ≤ _; omega), fun l3 nl3 => ?_⟩
      have s10 := s9.new (o := .lst (zs.map V.str)) nD
      have m10 : Sm p H (upd H9 D (.lst (zs.map V.str))) := m9.upd nDH
      have nl3H := sm_free m10 s10 nl3
      have hd10 := upd_at (o := .lst ([V.str t] ++ zs.map V.str)) (upd_at (o := .lst (zs.map V.str)) hd9 nD) nl3
      have l3d : l3 ≠ d := fun e => by rw [e, upd_at hd9 nD] at nl3; cases nl3
      refine ⟨_, rfl, _, rfl, d, _, rfl, .inl ⟨_, Sum.inr t, hd10, rfl, small1000 (by rw [skv_len, List.length_append]; show _ + 1 ≤ _; omega), rfl⟩, ?_⟩
      rw [skv_put_last (f := V.ref) l1 l3 hnew]
      have ded : ∀ {a : Addr} {ts : List Str}, Lt H9 a ts → Lt (upd (upd (upd H9 D (.lst (zs.map V.str))) l3 (.lst ([V.str t] ++ zs.map V.str))) d (.dK (skv V.ref (L ++ [(t, l3)])))) a ts := fun {a ts} h => upd_to (upd_at (upd_at h nD) nl3) (ne_of (show H9 a = _ from h) hd9 fun z => by cases z)
      refine fin _ l3 (t :: zs) upd_same (hL9.mono fun e r ⟨a, b⟩ => ⟨a, ded b⟩) (upd_to upd_same l3d) (by simp) ?_ (fun u hu => ?_) (ded hlo9) (ded htx9) (((s10.new nl3)).to (Ne.symm dp)) ((m10.upd nl3H).upd nd0)
      · exact List.nodup_cons.mpr ⟨fun h => hout t h rfl, hzs.nodup xnd⟩
      · rcases List.mem_cons.mp hu with rfl | hu
        · exact tos
        · exact xin _ (hzs.subset hu)
    · exact fin H8 l1 [t] hd8 hL8 hl18 (by simp) (by simp) (fun u hu => by rw [List.mem_singleton.mp hu]; exact tos) hlo8 htx8 s8 m8
  · rintro σ H5 ⟨o4, L, R, rfl, hd5, hL, hR, hRo, hlo5, htx5, s5, m5⟩
    rw [List.length_map, List.take_length] at hR
    refine ⟨_, rfl, _, rfl, by show 2 ≤ sizeLine; decide, fun t nt => ?_⟩
    exact hq t d lo R os _ upd_same ⟨L, upd_at hd5 nt, hL.same (same_new nt)⟩ (upd_at hlo5 nt) hR hRo ond hol (m5.upd (sm_free m5 s5 nt))
/-! ### finders -/
/-- the law's own finder: pairs of a weight and a list -/
def FD (H : Hp) (a : Addr) (F : List (Int × List Str)) : Prop := ∃ L : List (Addr × Addr), H a = some (.lst (L.map fun e => V.ref e.1)) ∧ All2 (fun e f => H e.1 = some (.tup [.int f.1, .ref e.2]) ∧ Lt H e.2 f.2) L F
/-- a copy that is handed: lists of two -/
def CP (H : Hp) (a : Addr) (F : List (Int × List Str)) : Prop := ∃ L : List (Addr × Addr), H a = some (.lst (L.map fun e => V.ref e.1)) ∧ All2 (fun e f => H e.1 = some (.lst [.int f.1, .ref e.2]) ∧ Lt H e.2 f.2) L F
theorem FD.same {H H' : Hp} {a : Addr} {F : List (Int × List Str)} (h : FD H a F) (s : Same H H') : FD H' a F := let ⟨L, e, r⟩ := h; ⟨L, s _ _ e, r.mono fun e f ⟨x, y⟩ => ⟨s _ _ x, s _ _ y⟩⟩
theorem CP.same {H H' : Hp} {a : Addr} {F : List (Int × List Str)} (h : CP H a F) (s : Same H H') : CP H' a F := let ⟨L, e, r⟩ := h; ⟨L, s _ _ e, r.mono fun e f ⟨x, y⟩ => ⟨s _ _ x, s _ _ y⟩⟩
structure FOk (F : List (Int × List Str)) : Prop where
  len : 1 ≤ F.length ∧ F.length ≤ 20
  pos : ∀ f ∈ F, 1 ≤ f.1 ∧ f.1 ≤ 10 ^ 40
  few : ∀ f ∈ F, f.2.length ≤ 40
def spCopy : Sp := fun vs H Q _ => ∃ (a : Addr) (F : List (Int × List Str)), vs = [.ref a] ∧ FD H a F ∧ F.length ≤ 1000 ∧ ∀ c H', Same H H' → H c = none → CP H' c F → Q (.ref c) H'
abbrev N_law_copy : List PySem.Str := ["_law_finder_here", "_law_key"]
theorem sc_law_copy : FnScope N_law_copy ["_law_finder_here"] (defScope s_law_copy) := ⟨rfl, rfl, rfl, by decide +kernel, rfl, by decide +kernel, by decide +kernel⟩
theorem ok_copy (fx : Fx K mg) : Cal P w K mg base CX0 1 "_law_copy" ["_law_finder_here"] spCopy := by
  refine Cal.of (st := s_law_copy) fx.g_law_copy fx.fd_law_copy sc_law_copy (fun _ _ _ _ _ _ _ us hl => match us, hl with | [_], _ => rfl) (fun vs H Q E h => by obtain ⟨a, F, rfl, _⟩ := h; rfl) fun f cdv A outer s H vs Q E hr h => ⟨_, PSs.nox (pss_one (ps_ret (pe_lc (own := [("_law_key", 1)]) rfl sc_law_copy.nd (pi_listK (K := K) rfl (pv 0)) (blkOk_by (N := N_law_copy) (sc := defScope s_law_copy) (by decide +kernel)) (fun _ _ _ _ _ => (pg_name (i := 1) sc_law_copy.nd rfl (.inl rfl))) (fun _ _ _ _ _ => pts_nil) (fun _ _ _ _ _ => (pe_lst (pa_cons (pe_ix (ix_tupK (K := K) rfl) (pv 1) pe_int (fun _ _ => rfl)) (pa_cons (pe_callTy (call_list_ofK (K := K) rfl) rfl fx.f_list boot_list (pa_cons (pe_ix (ix_tupK (K := K) rfl) (pv 1) pe_int (fun _ _ => rfl)) pa_nil)) pa_nil))))))), ?_⟩
  obtain ⟨a, F, rfl, ⟨L, ha, hL⟩, hl, hq⟩ := h
  refine ⟨_, rfl, a, rfl, ⟨_, .inl (.inl ha)⟩, fun D nD => ?_⟩
  refine lc_list (xs := L.map fun e => V.ref e.1) (fun i H' => ∃ M : List (Addr × Addr), H' D = some (.lst (M.map fun e => V.ref e.1)) ∧ All2 (fun e f => H' e.1 = some (.lst [.int f.1, .ref e.2]) ∧ Lt H' e.2 f.2 ∧ e.1 ≠ D ∧ e.2 ≠ D) M (F.take i) ∧ Same H H') ⟨[], upd_same, All2.nil, same_new nD⟩ ?_ ?_ ?_
  · rintro i H' _ ⟨M, _, _, hs⟩
    exact .inl (.inl (hs _ _ ha))
  · rintro i y H1 hy ⟨M, hD, hM, hs⟩
    rw [List.getElem?_map] at hy
    obtain ⟨e, he, rfl⟩ := Option.map_eq_some_iff.mp hy
    obtain ⟨f, hf, g1, g2⟩ := hL.r he
    have g1' := hs _ _ g1
    have g2' : Lt H1 e.2 f.2 := hs _ _ g2
    have hil : i < F.length := (List.getElem?_eq_some_iff.mp hf).1
    refine ⟨rfl, _, rfl, e.1, _, _, _, rfl, rfl, .inl (.inl g1'), rfl, _, rfl, e.1, _, _, _, rfl, rfl, .inl (.inl g1'), rfl, e.2, _, rfl, .inl (.inl (.inl g2')), fun l nl => ⟨by show 2 ≤ sizeLine; decide, fun q nq => ?_⟩⟩
    have lD : l ≠ D := fun e => by rw [e, hD] at nl; cases nl
    have hD1 := upd_at (o := .lst (f.2.map V.str)) hD nl
    have qD : q ≠ D := fun e => by rw [e, hD1] at nq; cases nq
    have nlH := same_free hs nl
    have hs1 := same_upd (o := .lst (f.2.map V.str)) hs nlH
    refine ⟨_, upd_at hD1 nq, small1000 (by rw [List.length_map, hM.1, List.length_take]; omega), M ++ [(q, l)], ?_, ?_, same_upd (same_upd hs1 (same_free hs1 nq)) nD⟩
    · rw [upd_same]
      simp
    · rw [take_snoc hf]
      refine All2.snoc (hM.mono fun e f ⟨h1, h2, h3, h4⟩ => ⟨upd_to (upd_at (upd_at h1 nl) nq) h3, upd_to (upd_at (upd_at h2 nl) nq) h4, h3, h4⟩) ⟨?_, ?_, qD, lD⟩
      · rw [upd_ne qD]
        exact upd_same
      · exact upd_to (upd_at upd_same nq) lD
  · rintro H1 ⟨M, hD, hM, hs⟩
    rw [List.length_map, hL.1, List.take_length] at hM
    exact hq D H1 hs nD ⟨M, hD, hM.mono fun e f ⟨h1, h2, _⟩ => ⟨h1, h2⟩⟩
end Km
end

section
set_option Elab.async false
set_option linter.all false
set_option maxRecDepth 100000
set_option maxHeartbeats 4000000
set_option pp.maxSteps 700
/-! The law's finders. -/
namespace Km
open PySem PySem.Spec PyProof.Rows L2
variable {P : Program} {w : World} {K : PySem.W.Frag} {mg : Str → Option Value} {base : Heap}
theorem Rdb.sm {p d : Addr} {H H' : Hp} {R : List (Str × List Str)} (h : Rdb H d R) (m : Sm p H H') (h3 : St3 p H) : Rdb H' d R := by
  obtain ⟨L, a, b⟩ := h
  refine ⟨L, m _ _ (fun e => ?_) a, b.sm m h3⟩
  obtain ⟨x, y, z, h⟩ := h3
  rw [← e, a] at h
  cases h
theorem Rdb.get {H : Hp} {d : Addr} {R : List (Str × List Str)} {r : Str × List Str} (h : Rdb H d R) (nd : (R.map Prod.fst).Nodup) (hr : r ∈ R) : ∃ a, DGet H d (.str r.1) (some (.ref a)) ∧ Lt H a r.2 := by
  obtain ⟨L, a, b⟩ := h
  obtain ⟨x, h1, h2⟩ := b.get nd hr
  exact ⟨x, .inl ⟨_, Sum.inr r.1, .inl a, rfl, h1.symm⟩, h2⟩
/-- the finder as it grows -/
def FInv (H : Hp) (p d lo tx fl : Addr) (tp : Int) (L : List (Str × Addr)) (R : List (Str × List Str)) (os : List Str) (i : Nat) (σ : L2.St) (H' : Hp) : Prop :=
  ∃ (o6 o7 o8 o9 : Option V) (M : List (Addr × Addr)) (F : List (Int × List Str)), σ = [some (.ref p), some (.ref d), some (.ref lo), some (.int tp), some (.ref tx), some (.ref fl), o6, o7, o8, o9, none] ∧
    H' fl = some (.lst (M.map fun e => V.ref e.1)) ∧ All2 (fun e f => H' e.1 = some (.tup [.int f.1, .ref e.2]) ∧ Lt H' e.2 f.2 ∧ e.2 ≠ fl) M F ∧ F.length = i ∧ (∀ f ∈ F, (1 ≤ f.1 ∧ f.1 ≤ 10 ^ 40) ∧ f.2.length ≤ 40) ∧
    H' d = some (.dK (skv V.ref L)) ∧ RL H' L R ∧ Lt H' lo os ∧ Lt H' tx (R.map Prod.fst) ∧ St3 p H' ∧ Sm p H H'
/-- what stays while the stream is drawn from -/
structure FSt (H : Hp) (p d lo tx fl : Addr) (L : List (Str × Addr)) (R : List (Str × List Str)) (os : List Str) (M : List (Addr × Addr)) (F : List (Int × List Str)) (H1 : Hp) : Prop where
  x_fl : H1 fl = some (.lst (M.map fun e => V.ref e.1))
  x_M : All2 (fun e f => H1 e.1 = some (.tup [.int f.1, .ref e.2]) ∧ Lt H1 e.2 f.2 ∧ e.2 ≠ fl) M F
  x_d : H1 d = some (.dK (skv V.ref L))
  x_R : RL H1 L R
  x_lo : Lt H1 lo os
  x_tx : Lt H1 tx (R.map Prod.fst)
  x_s : St3 p H1
  x_m : Sm p H H1
theorem st3_ne' {p a : Addr} {H : Hp} {o : HO} (s : St3 p H) (h : H a = some o) (hu : ∀ x y z : Int, o ≠ .lst [.int x, .int y, .int z]) : a ≠ p := fun e => by
  obtain ⟨x, y, z, q⟩ := s
  rw [← e, h] at q
  exact hu _ _ _ (Option.some.inj q)
theorem FSt.sm {H H1 H2 : Hp} {p d lo tx fl : Addr} {L : List (Str × Addr)} {R : List (Str × List Str)} {os : List Str} {M : List (Addr × Addr)} {F : List (Int × List Str)} (h : FSt H p d lo tx fl L R os M F H1) (flp : fl ≠ p) (s2 : St3 p H2) (m2 : Sm p H1 H2) : FSt H p d lo tx fl L R os M F H2 :=
  ⟨m2 _ _ flp h.x_fl, h.x_M.mono fun e f ⟨a, b, c⟩ => ⟨m2 _ _ (st3_ne' h.x_s a fun _ _ _ z => by cases z) a, m2 _ _ (st3_ne h.x_s b) b, c⟩, m2 _ _ (st3_ne' h.x_s h.x_d fun _ _ _ z => by cases z) h.x_d, h.x_R.sm m2 h.x_s, m2 _ _ (st3_ne h.x_s h.x_lo) h.x_lo, m2 _ _ (st3_ne h.x_s h.x_tx) h.x_tx, s2, h.x_m.trans m2⟩
theorem FSt.new {H H1 : Hp} {p d lo tx fl q : Addr} {o : HO} {L : List (Str × Addr)} {R : List (Str × List Str)} {os : List Str} {M : List (Addr × Addr)} {F : List (Int × List Str)} (h : FSt H p d lo tx fl L R os M F H1) (nq : H1 q = none) : FSt H p d lo tx fl L R os M F (upd H1 q o) :=
  ⟨upd_at h.x_fl nq, h.x_M.mono fun e f ⟨a, b, c⟩ => ⟨upd_at a nq, upd_at b nq, c⟩, upd_at h.x_d nq, h.x_R.same (same_new nq), upd_at h.x_lo nq, upd_at h.x_tx nq, h.x_s.new nq, h.x_m.upd (sm_free h.x_m h.x_s nq)⟩
theorem FInv.next {H H2 : Hp} {p d lo tx fl ac T : Addr} {tp v : Int} {L : List (Str × Addr)} {R : List (Str × List Str)} {os xs : List Str} {i : Nat} {o6 o7 o9 : Option V} {M : List (Addr × Addr)} {F : List (Int × List Str)} (nfl : H fl = none) (flp : fl ≠ p) (h : FSt H p d lo tx fl L R os M F H2)
    (e1 : Lt H2 ac xs) (e2 : ac ≠ fl) (e3 : xs.length ≤ 40) (e6 : F.length = i) (e7 : ∀ f ∈ F, (1 ≤ f.1 ∧ f.1 ≤ 10 ^ 40) ∧ f.2.length ≤ 40) (v0 : 1 ≤ v) (v1 : v ≤ 10 ^ 40) (nT : H2 T = none) (hi : i ≤ 100) (lof : lo ≠ fl) (txf : tx ≠ fl) (rf : ∀ e ∈ L, e.2 ≠ fl) :
    ∃ (l : Addr) (xs' : List V) (y : V), V.ref fl = .ref l ∧ [V.ref T] = [y] ∧ upd H2 T (.tup [.int v, .ref ac]) l = some (.lst xs') ∧ xs'.length < sizeLine ∧
      FInv H p d lo tx fl tp L R os (i + 1) [some (.ref p), some (.ref d), some (.ref lo), some (.int tp), some (.ref tx), some (.ref fl), o6, o7, some (.ref ac), o9, none] (upd (upd H2 T (.tup [.int v, .ref ac])) l (.lst (xs' ++ [y]))) := by
  have Tfl : T ≠ fl := fun e => by rw [e, h.x_fl] at nT; cases nT
  have go : ∀ {a : Addr} {o : HO} {w : HO}, H2 a = some o → a ≠ fl → upd (upd H2 T (.tup [.int v, .ref ac])) fl w a = some o := fun h hf => upd_to (upd_at h nT) hf
  have goL : ∀ {a : Addr} {ts : List Str} {w : HO}, Lt H2 a ts → a ≠ fl → Lt (upd (upd H2 T (.tup [.int v, .ref ac])) fl w) a ts := fun h hf => go h hf
  refine ⟨fl, _, _, rfl, rfl, upd_at h.x_fl nT, small1000 (by rw [List.length_map, h.x_M.1]; omega), o6, o7, _, o9, M ++ [(T, ac)], F ++ [(v, xs)], rfl, ?_, ?_, by rw [List.length_append, e6]; rfl, fun f hf => ?_, go h.x_d (ne_of h.x_d h.x_fl fun z => by cases z), ⟨h.x_R.1, fun j e r h1 h2 => ?_⟩, goL h.x_lo lof, goL h.x_tx txf, (h.x_s.new nT).to (Ne.symm flp), (h.x_m.upd (sm_free h.x_m h.x_s nT)).upd nfl⟩
  · rw [upd_same]
    simp
  · refine All2.snoc (h.x_M.mono fun e f ⟨a, b, c⟩ => ⟨go a (ne_of a h.x_fl fun z => by cases z), goL b c, c⟩) ⟨?_, goL e1 e2, e2⟩
    rw [upd_ne Tfl]
    exact upd_same
  · rcases List.mem_append.mp hf with hf | hf
    · exact e7 f hf
    · rw [List.mem_singleton.mp hf]
      exact ⟨⟨v0, v1⟩, e3⟩
  · obtain ⟨g1, g2⟩ := h.x_R.2 j e r h1 h2
    exact ⟨g1, goL g2 (rf e (List.mem_of_getElem? h1))⟩
def spFinder : Sp := fun vs H Q _ => ∃ (p d lo : Addr) (R : List (Str × List Str)) (os : List Str), vs = [.ref p, .ref d, .ref lo] ∧ St3 p H ∧ Rdb H d R ∧ (R.map Prod.fst).Nodup ∧ 1 ≤ R.length ∧ R.length ≤ 24 ∧ ROk os R ∧ Lt H lo os ∧ os.Nodup ∧ os.length ≤ 40 ∧
  ∀ a F H', FD H' a F → FOk F → Sm p H H' → Q (.ref a) H'
abbrev N_law_finder : List PySem.Str := ["_law_stream_here", "_law_readable_here", "_law_others", "_law_top_here", "_law_texts", "_law_finder_here", "_law_step", "_law_shape", "_law_accused", "_law_more", "_law_other"]
theorem sc_law_finder : FnScope N_law_finder ["_law_stream_here", "_law_readable_here", "_law_others"] (defScope s_law_finder) := ⟨rfl, rfl, rfl, by decide +kernel, rfl, by decide +kernel, by decide +kernel⟩
theorem ok_finder (fx : Fx K mg) : Cal P w K mg base CX0 4 "_law_finder" ["_law_stream_here", "_law_readable_here", "_law_others"] spFinder := by
  have cal_law_draw : Cal P w K mg base CX0 1 "_law_draw" ["_law_stream_here", "_law_many"] spDraw := ok_draw fx
  have cal_law_part : Cal P w K mg base CX0 2 "_law_part" ["_law_stream_here", "_law_texts"] spPart := ok_part fx
  have cal_law_top : Cal P w K mg base CX0 3 "_law_top" ["_law_stream_here", "_law_top_here"] spTop := ok_top fx
  refine Cal.of (st := s_law_finder) fx.g_law_finder fx.fd_law_finder sc_law_finder (fun _ _ _ _ _ _ _ us hl => match us, hl with | [_, _, _], _ => rfl) (fun vs H Q E h => by obtain ⟨p, d, lo, R, os, rfl, _⟩ := h; rfl) fun f cdv A outer s H vs Q E hr h => ⟨_, PSs.nox (pss_cons (ps_set (i := 3) sc_law_finder.nd rfl (.inl rfl) (pe_ix (ix_listK (K := K) rfl) (pe_lst (pa_cons pe_int (pa_cons pe_int (pa_cons pe_int (pa_cons pe_int pa_nil))))) (pe_c cal_law_draw hr (by decide) rfl pass0 (pa_cons (pv 0) (pa_cons pe_int pa_nil))) (fun _ _ => rfl))) (pss_cons (ps_set (i := 4) sc_law_finder.nd rfl (.inl rfl) (pe_callTy (call_list_dK rfl) rfl fx.f_list boot_list (pa_cons (pv 1) pa_nil))) (pss_cons (ps_set (i := 5) sc_law_finder.nd rfl (.inl rfl) (pe_lst pa_nil)) (pss_cons (ps_for PassesOwn.never rfl (pi_range1 rfl fx.f_range (pa_cons (pe_op op_add pe_int (pe_c cal_law_draw hr (by decide) rfl pass0 (pa_cons (pv 0) (pa_cons (pe_ix (ix_listK (K := K) rfl) (pe_lst (pa_cons pe_int (pa_cons pe_int pa_nil))) (pe_op op_fdiv (pe_callTy call_int1 rfl fx.f_int boot_int (pa_cons (pe_c cal_law_draw hr (by decide) rfl pass0 (pa_cons (pv 0) (pa_cons pe_int pa_nil))) pa_nil)) pe_int) (fun _ _ => rfl)) pa_nil)))) pa_nil)) (pg_name (i := 6) sc_law_finder.nd rfl (.inl rfl)) (pss_cons (ps_set (i := 7) sc_law_finder.nd rfl (.inl rfl) (pe_c cal_law_draw hr (by decide) rfl pass0 (pa_cons (pv 0) (pa_cons pe_int pa_nil)))) (pss_cons (ps_set (i := 8) sc_law_finder.nd rfl (.inr rfl) (pe_callTy (call_list_ofK (K := K) rfl) rfl fx.f_list boot_list (pa_cons (pe_dget (hu_of hr) (pv 1) (pe_ix (ix_listK (K := K) rfl) (pv 4) (pe_c cal_law_draw hr (by decide) rfl pass0 (pa_cons (pv 0) (pa_cons (pe_callB (call_lenK (K := K) rfl) rfl fx.f_len boot_len (pa_cons (pv 4) pa_nil)) pa_nil))) (fun _ _ => rfl)) (fun _ _ => rfl)) pa_nil))) (pss_cons (ps_if (pt_cmpR op_eq (pv 7) pe_int (nomark _)) (pss_cons (ps_set (i := 9) sc_law_finder.nd rfl (.inl rfl) (pe_dget (hu_of hr) (pv 1) (pe_ix (ix_listK (K := K) rfl) (pv 4) (pe_c cal_law_draw hr (by decide) rfl pass0 (pa_cons (pv 0) (pa_cons (pe_callB (call_lenK (K := K) rfl) rfl fx.f_len boot_len (pa_cons (pv 4) pa_nil)) pa_nil))) (fun _ _ => rfl)) (fun _ _ => rfl))) (pss_one (ps_set (i := 8) sc_law_finder.nd rfl (.inr rfl) (pe_op op_cat (pv 8) (pe_lc (own := [("_law_other", 10)]) rfl sc_law_finder.nd (pi_listK (K := K) rfl (pv 9)) (blkOk_by (N := N_law_finder) (sc := defScope s_law_finder) (by decide +kernel)) (fun _ _ _ _ _ => (pg_name (i := 10) sc_law_finder.nd rfl (.inl rfl))) (fun _ _ _ _ _ => (pts_one (pt_cmpR (op_notIn_seqK (K := K) rfl) (pv 10) (pv 8) rfl))) (fun _ _ _ _ _ => (pv 10))))))) pss_nil) (pss_cons (ps_if (pt_cmpR op_eq (pv 7) pe_int (nomark _)) (pss_one (ps_set (i := 8) sc_law_finder.nd rfl (.inr rfl) (pe_c cal_law_part hr (by decide) rfl pass0 (pa_cons (pv 0) (pa_cons (pv 2) pa_nil))))) pss_nil) (pss_one (ps_expr (pe_bm PySem.F.plainAttrs_list PySem.F.slot_list_append PySem.F.type_list_append mt_append (pv 5) (pa_cons (pe_tup (pa_cons (pe_c cal_law_top hr (by decide) rfl pass0 (pa_cons (pv 0) (pa_cons (pv 3) pa_nil))) (pa_cons (pv 8) pa_nil))) pa_nil))))))))) (pss_one (ps_ret (pv 5))))))), ?_⟩
  obtain ⟨p, d, lo, R, os, rfl, h3, ⟨L, hd, hL⟩, rnd, rl1, rl2, rok, hlo, ond, ol, hq⟩ := h
  have lop := st3_ne h3 hlo
  have dp := st3_ne' h3 hd fun _ _ _ z => by cases z
  refine ⟨by show 4 ≤ sizeLine; decide, fun l4 nl4 => ?_⟩
  have l4p := h3.ne nl4
  refine ⟨_, rfl, p, _, rfl, by decide, by decide, h3.new nl4, fun g H2 g0 g1 s2 m2 => ?_⟩
  obtain ⟨tp, etp, tp0, tp1⟩ := top_ix g g0 g1
  refine ⟨l4, _, _, _, rfl, rfl, .inl (.inl (m2 _ _ l4p upd_same)), etp, ?_⟩
  have hd2 : H2 d = _ := m2 _ _ dp (upd_at hd nl4)
  have hL2 := (hL.same (same_new (o := .lst [.int 6, .int 6, .int 1000, .int 0]) nl4)).sm m2 (h3.new nl4)
  have hlo2 : Lt H2 lo os := m2 _ _ lop (upd_at hlo nl4)
  have m2 := (Sm.of (p := p) (same_new (o := .lst [.int 6, .int 6, .int 1000, .int 0]) nl4)).trans m2
  refine ⟨_, rfl, d, _, rfl, hd2, fun tx ntx => ?_⟩
  have ekeys : (skv V.ref L).map (fun kv => kV kv.1) = (R.map Prod.fst).map V.str := by
    rw [← hL2.keys]
    simp [skv, kV]
  have s3 := s2.new (o := .lst ((skv V.ref L).map fun kv => kV kv.1)) ntx
  have hd3 := upd_at (o := .lst ((skv V.ref L).map fun kv => kV kv.1)) hd2 ntx
  have hL3 := hL2.same (same_new (o := .lst ((skv V.ref L).map fun kv => kV kv.1)) ntx)
  have hlo3 : Lt (upd H2 tx (.lst ((skv V.ref L).map fun kv => kV kv.1))) lo os := upd_at hlo2 ntx
  have htx3 : Lt (upd H2 tx (.lst ((skv V.ref L).map fun kv => kV kv.1))) tx (R.map Prod.fst) := by
    show upd H2 tx _ tx = _
    rw [upd_same, ekeys]
  have m3 : Sm p H (upd H2 tx (.lst ((skv V.ref L).map fun kv => kV kv.1))) := m2.upd (sm_free m2 s2 ntx)
  generalize upd H2 tx (.lst ((skv V.ref L).map fun kv => kV kv.1)) = H3 at s3 hd3 hL3 hlo3 htx3 m3
  refine ⟨by show 0 ≤ sizeLine; decide, fun fl nfl => ?_⟩
  have nflH := sm_free m3 s3 nfl
  have flp := s3.ne nfl
  have lof : lo ≠ fl := ne_of_none hlo3 nfl
  have txf : tx ≠ fl := ne_of_none htx3 nfl
  have rf : ∀ e ∈ L, e.2 ≠ fl := fun e he => by
    obtain ⟨j, hj, rfl⟩ := List.mem_iff_getElem.mp he
    obtain ⟨r, _, _, g⟩ := hL3.r (List.getElem?_eq_getElem hj)
    exact ne_of_none g nfl
  have B4 : FSt H p d lo tx fl L R os [] [] (upd H3 fl (.lst [])) := ⟨upd_same, All2.nil, upd_at hd3 nfl, hL3.same (same_new nfl), upd_at hlo3 nfl, upd_at htx3 nfl, s3.new nfl, m3.upd nflH⟩
  refine ⟨_, rfl, by show 2 ≤ sizeLine; decide, fun l2 nl2 => ?_⟩
  have l2p := B4.x_s.ne nl2
  have B5 := B4.new (o := .lst [.int 6, .int 20]) nl2
  refine ⟨_, rfl, p, _, rfl, by decide, by decide, B5.x_s, fun e8 H5 e80 e81 s5 m5 => .inl ⟨_, rfl, _, _, rfl, rfl, ⟨by decide, by decide⟩, l2, _, _, _, rfl, rfl, .inl (.inl (m5 _ _ l2p upd_same)), two_ix 6 20 e8 e80 e81, ?_⟩⟩
  have mb : 6 ≤ (if e8 = 7 then (20 : Int) else 6) ∧ (if e8 = 7 then (20 : Int) else 6) ≤ 20 := by split <;> omega
  have B6 := B5.sm flp s5 m5
  refine ⟨p, _, rfl, by omega, by omega, s5, fun my H6 my0 my1 s6 m6 => ⟨_, _, rfl, rfl, ?_⟩⟩
  have B7 := B6.sm flp s6 m6
  obtain ⟨my, rfl⟩ := Int.eq_ofNat_of_zero_le my0
  refine ⟨_, rfl, by omega, by omega, ?_⟩
  have ej : ((1 : Int) + ((my : Nat) : Int)).toNat = my + 1 := by omega
  refine for_range (n := ((1 : Int) + ((my : Nat) : Int)).toNat) (FInv H p d lo tx fl tp L R os)
    ⟨none, none, none, none, [], [], rfl, B7.x_fl, All2.nil, rfl, fun f h => (by cases h), B7.x_d, B7.x_R, B7.x_lo, B7.x_tx, B7.x_s, B7.x_m⟩ ?_ ?_
  · rintro i σ H7 hi ⟨o6, o7, o8, o9, M, F, rfl, hfl7, hM, hFl, hF, hd7, hR7, hlo7, htx7, s7, m7⟩
    rw [ej] at hi
    have C7 : FSt H p d lo tx fl L R os M F H7 := ⟨hfl7, hM, hd7, hR7, hlo7, htx7, s7, m7⟩
    have tlen : (R.map Prod.fst).length = R.length := List.length_map ..
    refine ⟨_, rfl, p, _, rfl, by decide, by decide, s7, fun sh H8 sh0 sh1 s8 m8 => ?_⟩
    have C8 := C7.sm flp s8 m8
    refine ⟨_, rfl, _, rfl, _, rfl, _, rfl, _, _, rfl, .inl ⟨_, .inl (.inl C8.x_tx), rfl⟩, p, _, rfl, by rw [List.length_map, tlen]; omega, by rw [List.length_map, tlen]; omega, s8, fun ix H9 ix0 ix1 s9 m9 => ?_⟩
    rw [List.length_map] at ix1
    obtain ⟨t, ht, et⟩ := atI_text ix0 ix1
    obtain ⟨r, hr, rfl⟩ := List.mem_map.mp ht
    have C9 := C8.sm flp s9 m9
    obtain ⟨ra, dga, hra⟩ := C9.x_R.get rnd hr
    obtain ⟨rin, rn, ros⟩ := rok r hr
    have rlen : r.2.length ≤ 40 := Nat.le_trans (len_sub rn ros) ol
    refine ⟨tx, _, _, _, rfl, rfl, .inl (.inl C9.x_tx), et, d, _, rfl, .inl ⟨_, Sum.inr r.1, .inl C9.x_d, rfl, dga.symm⟩, ra, _, rfl, .inl (.inl (.inl hra)), fun ac nac => ?_⟩
    have acfl : ac ≠ fl := fun e => by rw [e, C9.x_fl] at nac; cases nac
    have acp := C9.x_s.ne nac
    have hac : Lt (upd H9 ac (.lst (r.2.map V.str))) ac r.2 := upd_same
    have C10 := C9.new (o := .lst (r.2.map V.str)) nac
    generalize upd H9 ac (.lst (r.2.map V.str)) = H10 at hac C10
    refine ⟨_, rfl, rfl, _, rfl, ite2 (fun z1 => ?_) fun z1 => ?_⟩
    · have z1 : V.int sh = V.int 1 := of_decide_eq_true z1
      injection z1 with z1
      refine ⟨_, rfl, _, rfl, _, rfl, _, rfl, _, _, rfl, .inl ⟨_, .inl (.inl C10.x_tx), rfl⟩, p, _, rfl, by rw [List.length_map, tlen]; omega, by rw [List.length_map, tlen]; omega, C10.x_s, fun ix2 H11 iy0 iy1 s11 m11 => ?_⟩
      rw [List.length_map] at iy1
      obtain ⟨t2, ht2, et2⟩ := atI_text iy0 iy1
      obtain ⟨r2, hr2, rfl⟩ := List.mem_map.mp ht2
      have C11 := C10.sm flp s11 m11
      have hac11 : Lt H11 ac r.2 := m11 _ _ acp hac
      obtain ⟨rb, dgb, hrb⟩ := C11.x_R.get rnd hr2
      obtain ⟨rin2, rn2, ros2⟩ := rok r2 hr2
      have rlen2 : r2.2.length ≤ 40 := Nat.le_trans (len_sub rn2 ros2) ol
      refine ⟨tx, _, _, _, rfl, rfl, .inl (.inl C11.x_tx), et2, d, _, rfl, .inl ⟨_, Sum.inr r2.1, .inl C11.x_d, rfl, dgb.symm⟩, ?_⟩
      refine ⟨_, rfl, _, rfl, rb, rfl, ⟨_, .inl (.inl hrb)⟩, fun D nD => ?_⟩
      refine lc_list (xs := r2.2.map V.str) (fun i H' => ∃ zs : List Str, H' = upd H11 D (.lst (zs.map V.str)) ∧ zs.Sublist (r2.2.take i) ∧ ∀ u ∈ zs, ¬ u ∈ r.2) ⟨[], rfl, List.nil_sublist _, fun t h => (by cases h)⟩ ?_ ?_ ?_
      · rintro j H' _ ⟨zs, rfl, _⟩
        exact .inl (.inl (upd_at hrb nD))
      · rintro j y H' hy ⟨zs, rfl, hzs, hout⟩
        obtain ⟨u, hu, rfl⟩ := lt_map hy
        have hzl := hzs.length_le
        rw [List.length_take] at hzl
        refine ⟨rfl, _, rfl, _, rfl, ac, _, rfl, .inl (.inl (.inl (upd_at hac11 nD))), rfl, flat_strs _, _, rfl, ?_⟩
        rw [if_pos rfl, inV_str]
        cases hin : decide (u ∈ r.2) with
        | true => exact iteF ⟨zs, rfl, by rw [take_snoc hu]; exact hzs.trans (List.sublist_append_left _ _), hout⟩
        | false =>
          have hin : ¬ u ∈ r.2 := of_decide_eq_false hin
          refine iteT ⟨_, rfl, _, upd_same, small1000 (by rw [List.length_map]; omega), zs ++ [u], ?_, by rw [take_snoc hu]; exact hzs.append (List.Sublist.refl _), fun t' h' => ?_⟩
          · rw [upd_upd, map_snoc]
          · rcases List.mem_append.mp h' with h' | h'
            · exact hout _ h'
            · rw [List.mem_singleton.mp h']
              exact hin
      rintro H' ⟨zs, rfl, hzs, hout⟩
      rw [List.length_map, List.take_length] at hzs
      have C12 := C11.new (o := .lst (zs.map V.str)) nD
      have acD : ac ≠ D := ne_of_none hac11 nD
      have zl : (r.2 ++ zs).length ≤ 40 := by
        refine Nat.le_trans (len_sub (xs := r.2 ++ zs) (ys := os) ?_ fun x hx => ?_) ol
        · exact List.nodup_append.mpr ⟨rn, hzs.nodup rn2, fun a ha b hb e => hout b hb (by rw [← e]; exact ha)⟩
        · rcases List.mem_append.mp hx with hx | hx
          · exact ros x hx
          · exact ros2 x (hzs.subset hx)
      refine ⟨ac, D, _, _, rfl, rfl, upd_at hac11 nD, upd_same, line16 (by rw [List.length_append] at zl; rw [List.length_map, List.length_map]; omega), fun l3 nl3 => ?_⟩
      have C13 := C12.new (o := .lst (r.2.map V.str ++ zs.map V.str)) nl3
      have h3f : l3 ≠ fl := fun e => by rw [e, C12.x_fl] at nl3; cases nl3
      refine ⟨_, rfl, rfl, _, rfl, ite2 (fun z2 => ?_) fun z2 => ?_⟩
      · have z2 : V.int sh = V.int 2 := of_decide_eq_true z2
        injection z2 with z2
        omega
      refine ⟨_, rfl, .inl ⟨rfl, _, .inl (.inl C13.x_fl)⟩, _, rfl, _, rfl, p, tp, rfl, tp0, tp1, C13.x_s, fun v H14 v0 v1 s14 m14 => ⟨_, rfl, by show 2 ≤ sizeLine; decide, fun T nT => ?_⟩⟩
      have hl3 : Lt (upd (upd H11 D (.lst (zs.map V.str))) l3 (.lst (r.2.map V.str ++ zs.map V.str))) l3 (r.2 ++ zs) := by
        show upd _ l3 _ l3 = _
        rw [upd_same, List.map_append]
      exact FInv.next nflH flp (C13.sm flp s14 m14) (m14 _ _ (st3_ne C13.x_s hl3) hl3) h3f zl hFl hF v0 v1 nT (by omega) lof txf rf
    · refine ⟨_, rfl, rfl, _, rfl, ite2 (fun z2 => ?_) fun z2 => ?_⟩
      · refine ⟨_, rfl, _, rfl, p, lo, os, rfl, C10.x_s, C10.x_lo, by omega, fun l xs H11 xl xin xnd nl hl s11 m11 => ?_⟩
        have C11 := C10.sm flp s11 m11
        have lfl : l ≠ fl := fun e => by rw [e, C10.x_fl] at nl; cases nl
        refine ⟨_, rfl, .inl ⟨rfl, _, .inl (.inl C11.x_fl)⟩, _, rfl, _, rfl, p, tp, rfl, tp0, tp1, s11, fun v H14 v0 v1 s14 m14 => ⟨_, rfl, by show 2 ≤ sizeLine; decide, fun T nT => ?_⟩⟩
        exact FInv.next nflH flp (C11.sm flp s14 m14) (m14 _ _ (st3_ne s11 hl) hl) lfl (by omega) hFl hF v0 v1 nT (by omega) lof txf rf
      · refine ⟨_, rfl, .inl ⟨rfl, _, .inl (.inl C10.x_fl)⟩, _, rfl, _, rfl, p, tp, rfl, tp0, tp1, C10.x_s, fun v H14 v0 v1 s14 m14 => ⟨_, rfl, by show 2 ≤ sizeLine; decide, fun T nT => ?_⟩⟩
        exact FInv.next nflH flp (C10.sm flp s14 m14) (m14 _ _ (st3_ne C10.x_s hac) hac) acfl rlen hFl hF v0 v1 nT (by omega) lof txf rf
  · rintro σ H7 ⟨o6, o7, o8, o9, M, F, rfl, hfl7, hM, hFl, hF, hR7, _, hlo7, htx7, s7, m7⟩
    rw [ej] at hFl
    exact ⟨_, rfl, hq fl F H7 ⟨M, hfl7, hM.mono fun e f ⟨a, b, _⟩ => ⟨a, b⟩⟩ ⟨by omega, fun f h => (hF f h).1, fun f h => (hF f h).2⟩ m7⟩
end Km
end

section
set_option Elab.async false
set_option linter.all false
set_option maxRecDepth 100000
set_option maxHeartbeats 4000000
set_option pp.maxSteps 700
/-! Changes, a source's texts and weights, accused_by. -/
namespace Km
open PySem PySem.Spec PyProof.Rows L2
variable {P : Program} {w : World} {K : PySem.W.Frag} {mg : Str → Option Value} {base : Heap}
/-- what is kept of a text: itself and what may be read, in order -/
def Kp (H : Hp) (a : Addr) (r : Str × List Str) : Prop := ∃ ys, Tt H a ys ∧ ys.Nodup ∧ sortedS ys = true ∧ (∀ t, t ∈ ys ↔ t = r.1 ∨ t ∈ r.2) ∧ ys.length ≤ 200
def KL (H : Hp) (L : List (Str × Addr)) (R : List (Str × List Str)) : Prop := All2 (fun e r => e.1 = r.1 ∧ Kp H e.2 r) L R
def KD (H : Hp) (d : Addr) (R : List (Str × List Str)) : Prop := ∃ L, H d = some (.dK (skv V.ref L)) ∧ KL H L R
theorem Kp.same {H H' : Hp} {a : Addr} {r : Str × List Str} (h : Kp H a r) (s : Same H H') : Kp H' a r := let ⟨ys, e, x⟩ := h; ⟨ys, s _ _ e, x⟩
theorem KL.same {H H' : Hp} {L : List (Str × Addr)} {R : List (Str × List Str)} (h : KL H L R) (s : Same H H') : KL H' L R := h.mono fun e r ⟨a, b⟩ => ⟨a, b.same s⟩
theorem KL.keys {H : Hp} {L : List (Str × Addr)} {R : List (Str × List Str)} (h : KL H L R) : L.map Prod.fst = R.map Prod.fst := by
  apply List.ext_getElem?
  intro i
  rw [List.getElem?_map, List.getElem?_map]
  cases e : L[i]? with
  | none =>
    have : R[i]? = none := by rw [List.getElem?_eq_none_iff] at e ⊢; rw [← h.1]; exact e
    rw [this] <;> rfl
  | some x =>
    obtain ⟨y, hy, g, _⟩ := h.r e
    rw [hy]
    show some x.1 = some y.1
    rw [g]
theorem KL.get {H : Hp} {L : List (Str × Addr)} {R : List (Str × List Str)} {r : Str × List Str} (h : KL H L R) (nd : (R.map Prod.fst).Nodup) (hr : r ∈ R) : ∃ a, valV (skv V.ref L) (.inr r.1) = some (.ref a) ∧ Kp H a r := by
  obtain ⟨i, hi, rfl⟩ := List.mem_iff_getElem.mp hr
  obtain ⟨e, he, g1, g2⟩ := h.l (List.getElem?_eq_getElem hi)
  refine ⟨e.2, ?_, g2⟩
  rw [← g1]
  exact skv_some (f := V.ref) (x := e.2) (by rw [h.keys]; exact nd) (List.mem_of_getElem? he)
def ChAt (K : PySem.W.Frag) (H : Hp) (c : Addr) (R : List (Str × List Str)) : Prop := ∃ dx d, H c = some (.ins (He.ga K "Changes") dx [("kept", .ref d)]) ∧ KD H d R
theorem ChAt.same {H H' : Hp} {c : Addr} {R : List (Str × List Str)} (h : ChAt K H c R) (s : Same H H') : ChAt K H' c R := let ⟨dx, d, a, L, b, e⟩ := h; ⟨dx, d, s _ _ a, L, s _ _ b, e.same s⟩
/-- rows for Changes -/
def RW (H : Hp) (l : Addr) (R : List (Str × List Str)) : Prop := ∃ L : List (Addr × Addr), H l = some (.lst (L.map fun e => V.ref e.1)) ∧ All2 (fun e r => H e.1 = some (.tup [.str r.1, .ref e.2]) ∧ Lt H e.2 r.2) L R
def spChI (K : PySem.W.Frag) : Sp := fun vs H Q _ => ∃ (x dx l : Addr) (R : List (Str × List Str)), vs = [.ref x, .ref l] ∧ H x = some (.ins (He.ga K "Changes") dx []) ∧ RW H l R ∧ (R.map Prod.fst).Nodup ∧ (∀ r ∈ R, r.2.length ≤ 100) ∧ R.length ≤ 100 ∧
  ∀ H' d, Sm x H H' → H' x = some (.ins (He.ga K "Changes") dx [("kept", .ref d)]) → KD H' d R → Q .non H'
abbrev N_Changes_init : List PySem.Str := ["self", "rows", "kept", "at", "text", "readable"]
theorem sc_Changes_init : FnScope N_Changes_init ["self", "rows"] (defScope s_Changes_init) := ⟨rfl, rfl, rfl, by decide +kernel, rfl, by decide +kernel, by decide +kernel⟩
theorem ok_chI (fx : Fx K mg) : Mak P w K mg base CX0 1 "Changes" (He.ga K "Changes") ["self", "rows"] (spChI K) := by
  refine Mak.of (p := ("Changes", some "__init__")) (st := s_Changes_init) fx.g_Changes fx.k_Changes fx.fd_Changes_init sc_Changes_init (fun _ _ _ _ _ _ _ us hl => match us, hl with | [_, _], _ => rfl) (fun vs H Q E h => by obtain ⟨x, dx, l, R, rfl, _⟩ := h; rfl) fun f cdv A outer s H vs Q E hr h => ⟨_, PSs.nox (pss_cons (ps_set (i := 2) sc_Changes_init.nd rfl (.inl rfl) pe_dnewK) (pss_cons (ps_for PassesOwn.never rfl (pi_enum rfl fx.f_enumerate (pa_cons (pv 1) pa_nil)) (pg_tupK (K := K) (n := 2) rfl rfl (pgs_cons (pg_name (i := 3) sc_Changes_init.nd rfl (.inl rfl)) (pgs_cons (pg_tupK (K := K) (n := 2) rfl rfl (pgs_cons (pg_name (i := 4) sc_Changes_init.nd rfl (.inl rfl)) (pgs_cons (pg_name (i := 5) sc_Changes_init.nd rfl (.inl rfl)) pgs_nil))) pgs_nil))) (pss_cons (ps_if (pt_cmp (pc_din (hu_of hr) (pv 4) (pv 2))) (pss_one ps_never) pss_nil) (pss_one (ps_dput (hu_of hr) (pv 2) (pv 4) (pe_tupleOfK (K := K) rfl rfl fx.f_tuple (pe_callB (cr_sortTx rfl) rfl fx.f_sorted boot_sorted (pa_cons (pe_callTy (cr_setTx rfl) rfl fx.f_set boot_set (pa_cons (pe_op op_cat (pe_lst (pa_cons (pv 4) pa_nil)) (pe_callTy (call_list_ofK (K := K) rfl) rfl fx.f_list boot_list (pa_cons (pv 5) pa_nil))) pa_nil)) pa_nil))) rfl)))) (pss_one (ps_fld (pv 0) (pv 2) rfl)))), ?_⟩
  obtain ⟨x, dx, l, R, rfl, hx, ⟨M, hl, hM⟩, nd, hr2, hlen, hq⟩ := h
  refine fun d nd' => ?_
  have hd : d ≠ x := fun e => by rw [e, hx] at nd'; cases nd'
  refine ⟨_, rfl, l, M.map (fun e => V.ref e.1), rfl, .inl (.inl (upd_at hl nd')), ?_⟩
  refine for_it (walk_enum (K := K) (a := l) (xs := M.map fun e => V.ref e.1)) (fun i σ H' => ∃ (o1 o2 o3 : Option V) (L : List (Str × Addr)), σ = [some (.ref x), some (.ref l), some (.ref d), o1, o2, o3] ∧ H' d = some (.dK (skv V.ref L)) ∧ KL H' L (R.take i) ∧ Same H H') ⟨none, none, none, [], rfl, upd_same, All2.nil, same_new nd'⟩ ?_ ?_ ?_
  · rintro i σ H' hi ⟨o1, o2, o3, L, rfl, _, _, hs⟩
    exact .inl (.inl (hs _ _ hl))
  · rintro i v σ H' H2 hi ⟨o1, o2, o3, L, rfl, hd1, hL, hs⟩ ⟨T, a1, y, rfl, nT, rfl, e1, e2⟩
    cases e1
    have e2 : (M.map fun e => V.ref e.1)[i]? = some y := e2
    rw [List.getElem?_map] at e2
    obtain ⟨e, he, rfl⟩ := Option.map_eq_some_iff.mp e2
    obtain ⟨r, hr, g1, g2⟩ := hM.r he
    have hmem := List.mem_of_getElem? hr
    have hil : i < R.length := (List.getElem?_eq_some_iff.mp hr).1
    have nTH := same_free hs nT
    have hT : Same H (upd H' T (.tup [.int (i : Nat), .ref e.1])) := same_upd hs nTH
    have hd2 := upd_at (o := .tup [.int (i : Nat), .ref e.1]) hd1 nT
    have hLk := hL.keys
    have hLl : L.length ≤ 100 := by rw [hL.1, List.length_take]; omega
    have hnew : ¬ r.1 ∈ L.map Prod.fst := by
      rw [hLk]
      intro m
      have n1 : ((R.take (i + 1)).map Prod.fst).Nodup := (List.Sublist.map _ (List.take_sublist _ _)).nodup nd
      rw [take_snoc hr, List.map_append] at n1
      exact (List.nodup_append.mp n1).2.2 _ m _ (by simp) rfl
    have rl := hr2 r hmem
    refine ⟨T, _, rfl, .inl (.inl upd_same), rfl, _, _, rfl, _, _, rfl, ⟨e.1, _, rfl, .inl (.inl (hT _ _ g1)), rfl, _, _, rfl, _, _, rfl, rfl, rfl, ?_⟩⟩
    refine ⟨_, rfl, _, rfl, d, _, rfl, .inl ⟨_, Sum.inr r.1, .inl hd2, rfl, rfl⟩, _, rfl, ?_⟩
    rw [skv_none hnew]
    refine iteF ?_
    refine ⟨_, rfl, by show 1 ≤ sizeLine; decide, fun l1 nl1 => ?_⟩
    have hT1 := same_upd (o := .lst [.str r.1]) hT (same_free hT nl1)
    refine ⟨_, rfl, e.2, _, rfl, .inl (.inl (.inl (hT1 _ _ g2))), fun l2 nl2 => ?_⟩
    have hT2 := same_upd (o := .lst (r.2.map V.str)) hT1 (same_free hT1 nl2)
    have hl1 := upd_at (o := .lst (r.2.map V.str)) (upd_same (H := upd H' T (.tup [.int (i : Nat), .ref e.1])) (a := l1) (o := .lst [.str r.1])) nl2
    refine ⟨l1, l2, _, _, rfl, rfl, hl1, upd_same, line16 (by rw [List.length_map]; show 1 + _ ≤ _; omega), fun l3 nl3 => ?_⟩
    have hT3 := same_upd (o := .lst ([V.str r.1] ++ r.2.map V.str)) hT2 (same_free hT2 nl3)
    refine ⟨l3, r.1 :: r.2, rfl, .inl (.inl upd_same), by rw [List.length_cons]; omega, fun m sx hm nsx => ?_⟩
    have hT4 := same_upd (o := SetTx P w sx (inL (r.1 :: r.2)) m) hT3 (same_free hT3 nsx)
    rw [List.length_cons] at hm
    refine ⟨sx, _, m, rfl, upd_same, by omega, fun ys l5 hso hnd hmem2 hyl nl5 => ?_⟩
    have hT5 := same_upd (o := .lst (ys.map V.str)) hT4 (same_free hT4 nl5)
    refine .inl ⟨l5, _, rfl, .inl (.inl upd_same), fun q nq => ?_⟩
    have hT6 := same_upd (o := .tup (ys.map V.str)) hT5 (same_free hT5 nq)
    have up : ∀ {b : Addr} {u : HO}, H' b = some u → (upd (upd (upd (upd (upd (upd (upd H' T (.tup [.int (i : Nat), .ref e.1])) l1 (.lst [.str r.1])) l2 (.lst (r.2.map V.str))) l3 (.lst ([V.str r.1] ++ r.2.map V.str))) sx (SetTx P w sx (inL (r.1 :: r.2)) m)) l5 (.lst (ys.map V.str))) q (.tup (ys.map V.str))) b = some u := fun h =>
      upd_at (upd_at (upd_at (upd_at (upd_at (upd_at (upd_at h nT) nl1) nl2) nl3) nsx) nl5) nq
    have hd9 := up hd1
    have qd : q ≠ d := fun z => by rw [z, upd_at (upd_at (upd_at (upd_at (upd_at (upd_at hd1 nT) nl1) nl2) nl3) nsx) nl5] at nq; cases nq
    refine ⟨_, rfl, _, rfl, d, _, rfl, .inl ⟨_, Sum.inr r.1, hd9, rfl, small1000 (by rw [skv_len]; omega), rfl⟩, ?_⟩
    rw [skv_put (f := V.ref) q hnew]
    refine ⟨_, _, _, L ++ [(r.1, q)], rfl, upd_same, ?_, same_upd hT6 nd'⟩
    rw [take_snoc hr]
    refine All2.snoc (hL.mono fun e' r' ⟨a, ys', b, c⟩ => ⟨a, ys', upd_to (up b) (ne_of (show H' e'.2 = _ from b) hd1 fun z => by cases z), c⟩) ⟨rfl, ys, upd_to upd_same qd, hnd, hso, fun t => ?_, by omega⟩
    rw [hmem2, inL]
    simp
  · rintro σ H' ⟨o1, o2, o3, L, rfl, hd1, hL, hs⟩
    rw [List.length_map, hM.1, List.take_length] at hL
    have hx1 := hs _ _ hx
    refine ⟨_, rfl, _, rfl, x, _, dx, _, rfl, hx1, fx.c_Changes, fx.n_Changes_kept, by decide, ?_⟩
    refine hq _ d (fun b o hb e => upd_to (hs _ _ e) hb) upd_same ⟨L, upd_to hd1 hd, hL.mono fun e r ⟨a, ys, b, c⟩ => ⟨a, ys, upd_to b (ne_of (show H' e.2 = _ from b) hx1 fun z => by cases z), c⟩⟩
def spOf (K : PySem.W.Frag) : Sp := fun vs H Q _ => ∃ (c : Addr) (r : Str × List Str) (R : List (Str × List Str)), vs = [.ref c, .str r.1] ∧ ChAt K H c R ∧ (R.map Prod.fst).Nodup ∧ r ∈ R ∧ ∀ a, Kp H a r → Q (.ref a) H
abbrev N_Changes_of : List PySem.Str := ["self", "text"]
theorem sc_Changes_of : FnScope N_Changes_of ["self", "text"] (defScope s_Changes_of) := ⟨rfl, rfl, rfl, by decide +kernel, rfl, by decide +kernel, by decide +kernel⟩
theorem ok_of (fx : Fx K mg) : Met P w K mg base CX0 1 (He.ga K "Changes") "of" ["self", "text"] (spOf K) := by
  refine Met.of (p := ("Changes", some "of")) (st := s_Changes_of) fx.c_Changes fx.m_Changes_of fx.fd_Changes_of sc_Changes_of (fun _ _ _ _ _ _ _ us hl => match us, hl with | [_, _], _ => rfl) (fun vs H Q E h => by obtain ⟨c, r, R, rfl, _⟩ := h; rfl) fun f cdv A outer s H vs Q E hr h => ⟨_, PSs.nox (pss_cons (ps_if (pt_cmp (pc_dnotin (hu_of hr) (pv 1) (pe_fldK (K := K) rfl (pv 0) rfl))) (pss_one ps_never) pss_nil) (pss_one (ps_ret (pe_dget (hu_of hr) (pe_fldK (K := K) rfl (pv 0) rfl) (pv 1) (fun _ _ => rfl))))), ?_⟩
  obtain ⟨c, r, R, rfl, ⟨dx, d, hc, L, hd, hL⟩, nd, hr', hq⟩ := h
  obtain ⟨a, va, ka⟩ := hL.get nd hr'
  refine ⟨_, rfl, _, rfl, c, _, dx, _, _, rfl, hc, fx.c_Changes, fx.n_Changes_kept, rfl, d, _, rfl, .inl ⟨_, Sum.inr r.1, .inl hd, rfl, rfl⟩, _, rfl, ?_⟩
  rw [va]
  refine iteF ?_
  exact ⟨_, rfl, c, _, dx, _, _, rfl, hc, fx.c_Changes, fx.n_Changes_kept, rfl, _, rfl, d, .ref a, rfl, .inl ⟨_, Sum.inr r.1, .inl hd, rfl, va.symm⟩, hq a ka⟩
end Km
end

section
set_option Elab.async false
set_option linter.all false
set_option maxRecDepth 100000
set_option maxHeartbeats 4000000
set_option pp.maxSteps 700
/-! A source's texts and weights; known; accused_by; the law's own bound. -/
namespace Km
open PySem PySem.Spec PyProof.Rows L2
variable {P : Program} {w : World} {K : PySem.W.Frag} {mg : Str → Option Value} {base : Heap}
/-- texts() of a source of the class at C -/
def spTx (K : PySem.W.Frag) (C : Addr) : Sp := fun vs H Q _ => ∃ (s dx wa : Addr) (fs : List (Str × V)) (W : List (Str × Int)), vs = [.ref s] ∧ H s = some (.ins C dx fs) ∧ List.lookup ("weights" : Str) fs = some (.ref wa) ∧ H wa = some (.dK (skv V.int W)) ∧ W.length < 64 ∧
  ∀ a ys H', Same H H' → Tt H' a ys → ys.Perm (W.map Prod.fst) → sortedS ys = true → Q (.ref a) H'
def spWt (K : PySem.W.Frag) (C : Addr) : Sp := fun vs H Q _ => ∃ (s dx wa : Addr) (fs : List (Str × V)) (W : List (Str × Int)) (t : Str), vs = [.ref s, .str t] ∧ H s = some (.ins C dx fs) ∧ List.lookup ("weights" : Str) fs = some (.ref wa) ∧ H wa = some (.dK (skv V.int W)) ∧ Q (.int ((W.lookup t).getD 0)) H
abbrev N_Table_texts : List PySem.Str := ["self"]
theorem sc_Table_texts : FnScope N_Table_texts ["self"] (defScope s_Table_texts) := ⟨rfl, rfl, rfl, by decide +kernel, rfl, by decide +kernel, by decide +kernel⟩
theorem ok_txT (fx : Fx K mg) : Met P w K mg base CX0 1 (He.ga K "Table") "texts" ["self"] (spTx K (He.ga K "Table")) := by
  refine Met.of (p := ("Table", some "texts")) (st := s_Table_texts) fx.c_Table fx.m_Table_texts fx.fd_Table_texts sc_Table_texts (fun _ _ _ _ _ _ _ us hl => match us, hl with | [_], _ => rfl) (fun vs H Q E h => by obtain ⟨s, dx, wa, fs, W, rfl, _⟩ := h; rfl) fun f cdv A outer s H vs Q E hr h => ⟨_, PSs.nox (pss_one (ps_ret (pe_tupleOfK (K := K) rfl rfl fx.f_tuple (pe_callB (call_sortedD rfl) rfl fx.f_sorted boot_sorted (pa_cons (pe_fldK (K := K) rfl (pv 0) rfl) pa_nil))))), ?_⟩
  obtain ⟨s, dx, wa, fs, W, rfl, hs, f1, hwa, hl, hq⟩ := h
  refine ⟨_, rfl, s, _, dx, fs, _, rfl, hs, fx.c_Table, fx.n_Table_weights, f1, wa, _, W.map Prod.fst, rfl, .inl hwa, skv_keys W, by rw [List.length_map]; exact hl, fun ys p hp hso np => ?_⟩
  exact .inl ⟨p, _, rfl, .inl (.inl upd_same), fun q nq => hq q ys _ (same_upd (same_new np) (same_free (same_new np) nq)) upd_same hp hso⟩
abbrev N_Machine_texts : List PySem.Str := ["self"]
theorem sc_Machine_texts : FnScope N_Machine_texts ["self"] (defScope s_Machine_texts) := ⟨rfl, rfl, rfl, by decide +kernel, rfl, by decide +kernel, by decide +kernel⟩
theorem ok_txM (fx : Fx K mg) : Met P w K mg base CX0 1 (He.ga K "Machine") "texts" ["self"] (spTx K (He.ga K "Machine")) := by
  refine Met.of (p := ("Machine", some "texts")) (st := s_Machine_texts) fx.c_Machine fx.m_Machine_texts fx.fd_Machine_texts sc_Machine_texts (fun _ _ _ _ _ _ _ us hl => match us, hl with | [_], _ => rfl) (fun vs H Q E h => by obtain ⟨s, dx, wa, fs, W, rfl, _⟩ := h; rfl) fun f cdv A outer s H vs Q E hr h => ⟨_, PSs.nox (pss_one (ps_ret (pe_tupleOfK (K := K) rfl rfl fx.f_tuple (pe_callB (call_sortedD rfl) rfl fx.f_sorted boot_sorted (pa_cons (pe_fldK (K := K) rfl (pv 0) rfl) pa_nil))))), ?_⟩
  obtain ⟨s, dx, wa, fs, W, rfl, hs, f1, hwa, hl, hq⟩ := h
  refine ⟨_, rfl, s, _, dx, fs, _, rfl, hs, fx.c_Machine, fx.n_Machine_weights, f1, wa, _, W.map Prod.fst, rfl, .inl hwa, skv_keys W, by rw [List.length_map]; exact hl, fun ys p hp hso np => ?_⟩
  exact .inl ⟨p, _, rfl, .inl (.inl upd_same), fun q nq => hq q ys _ (same_upd (same_new np) (same_free (same_new np) nq)) upd_same hp hso⟩
theorem wt_get {W : List (Str × Int)} {t : Str} {Q : V → Prop} (h : Q (.int ((W.lookup t).getD 0))) : Q ((valV (skv V.int W) (.inr t)).getD (.int 0)) := by
  rw [skv_get]
  cases e : W.lookup t with
  | none => rw [e] at h; exact h
  | some x => rw [e] at h; exact h
abbrev N_Table_weight_of : List PySem.Str := ["self", "text"]
theorem sc_Table_weight_of : FnScope N_Table_weight_of ["self", "text"] (defScope s_Table_weight_of) := ⟨rfl, rfl, rfl, by decide +kernel, rfl, by decide +kernel, by decide +kernel⟩
theorem ok_wtT (fx : Fx K mg) : Met P w K mg base CX0 1 (He.ga K "Table") "weight_of" ["self", "text"] (spWt K (He.ga K "Table")) := by
  refine Met.of (p := ("Table", some "weight_of")) (st := s_Table_weight_of) fx.c_Table fx.m_Table_weight_of fx.fd_Table_weight_of sc_Table_weight_of (fun _ _ _ _ _ _ _ us hl => match us, hl with | [_, _], _ => rfl) (fun vs H Q E h => by obtain ⟨s, dx, wa, fs, W, t, rfl, _⟩ := h; rfl) fun f cdv A outer s H vs Q E hr h => ⟨_, PSs.nox (pss_one (ps_ret (pe_dget2 (hu_of hr) (pe_fldK (K := K) rfl (pv 0) rfl) (pv 1) pe_int (m2_mk rfl (by rfl) (by rfl) (by rfl))))), ?_⟩
  obtain ⟨s, dx, wa, fs, W, t, rfl, hs, f1, hwa, hq⟩ := h
  refine ⟨_, rfl, s, _, dx, fs, _, rfl, hs, fx.c_Table, fx.n_Table_weights, f1, wa, rfl, .inl ⟨_, .inl hwa⟩, _, rfl, _, .inl ⟨_, Sum.inr t, .inl hwa, rfl, rfl⟩, ?_⟩
  exact wt_get (Q := fun v => Q v H) hq
abbrev N_Machine_weight_of : List PySem.Str := ["self", "text"]
theorem sc_Machine_weight_of : FnScope N_Machine_weight_of ["self", "text"] (defScope s_Machine_weight_of) := ⟨rfl, rfl, rfl, by decide +kernel, rfl, by decide +kernel, by decide +kernel⟩
theorem ok_wtM (fx : Fx K mg) : Met P w K mg base CX0 1 (He.ga K "Machine") "weight_of" ["self", "text"] (spWt K (He.ga K "Machine")) := by
  refine Met.of (p := ("Machine", some "weight_of")) (st := s_Machine_weight_of) fx.c_Machine fx.m_Machine_weight_of fx.fd_Machine_weight_of sc_Machine_weight_of (fun _ _ _ _ _ _ _ us hl => match us, hl with | [_, _], _ => rfl) (fun vs H Q E h => by obtain ⟨s, dx, wa, fs, W, t, rfl, _⟩ := h; rfl) fun f cdv A outer s H vs Q E hr h => ⟨_, PSs.nox (pss_one (ps_ret (pe_dget2 (hu_of hr) (pe_fldK (K := K) rfl (pv 0) rfl) (pv 1) pe_int (m2_mk rfl (by rfl) (by rfl) (by rfl))))), ?_⟩
  obtain ⟨s, dx, wa, fs, W, t, rfl, hs, f1, hwa, hq⟩ := h
  refine ⟨_, rfl, s, _, dx, fs, _, rfl, hs, fx.c_Machine, fx.n_Machine_weights, f1, wa, rfl, .inl ⟨_, .inl hwa⟩, _, rfl, _, .inl ⟨_, Sum.inr t, .inl hwa, rfl, rfl⟩, ?_⟩
  exact wt_get (Q := fun v => Q v H) hq
/-- source.texts() -/
theorem src_tx {H : Hp} {s : Addr} {W : List (Str × Int)} {σ : L2.St} {Q : VK} {i : Nat} (h : Src K H s W) (hl : W.length < 64) (hi : σ[i]? = some (some (.ref s))) (hq : ∀ a ys H', Same H H' → Tt H' a ys → ys.Perm (W.map Prod.fst) → sortedS ys = true → Q (.ref a) H') :
    tMeth (He.ga K "Table") "texts" (spTx K (He.ga K "Table")) [] E0 (tVar i) tNil σ H Q ∨ tMeth (He.ga K "Machine") "texts" (spTx K (He.ga K "Machine")) [] E0 (tVar i) tNil σ H Q := by
  obtain ⟨C, dx, wa, fs, hC, hs, f1, f2, f3, f4, hwa⟩ := h.ex
  rcases hC with rfl | rfl
  · exact .inl ⟨_, hi, s, dx, fs, rfl, hs, f3, s, dx, wa, fs, W, rfl, hs, f1, hwa, hl, hq⟩
  · exact .inr ⟨_, hi, s, dx, fs, rfl, hs, f3, s, dx, wa, fs, W, rfl, hs, f1, hwa, hl, hq⟩
def wt (W : List (Str × Int)) (t : Str) : Int := (W.lookup t).getD 0
/-- source.weight_of(t) -/
theorem src_wt {H : Hp} {s : Addr} {W : List (Str × Int)} {σ : L2.St} {Q : VK} {i j : Nat} {t : Str} (h : Src K H s W) (hi : σ[i]? = some (some (.ref s))) (hj : σ[j]? = some (some (.str t))) (hq : Q (.int (wt W t)) H) :
    tMeth (He.ga K "Table") "weight_of" (spWt K (He.ga K "Table")) [] E0 (tVar i) (tCons (tVar j) tNil) σ H Q ∨ tMeth (He.ga K "Machine") "weight_of" (spWt K (He.ga K "Machine")) [] E0 (tVar i) (tCons (tVar j) tNil) σ H Q := by
  obtain ⟨C, dx, wa, fs, hC, hs, f1, f2, f3, f4, hwa⟩ := h.ex
  rcases hC with rfl | rfl
  · exact .inl ⟨_, hi, s, dx, fs, rfl, hs, f4, _, hj, s, dx, wa, fs, W, t, rfl, hs, f1, hwa, hq⟩
  · exact .inr ⟨_, hi, s, dx, fs, rfl, hs, f4, _, hj, s, dx, wa, fs, W, t, rfl, hs, f1, hwa, hq⟩
/-- source.whole -/
theorem src_whole {H : Hp} {s : Addr} {W : List (Str × Int)} {Q : VK} (fx : Fx K mg) (h : Src K H s W) (hq : Q (.int (W.map Prod.snd).sum) H) :
    ∃ a C dx fs v, V.ref s = .ref a ∧ H a = some (.ins C dx fs) ∧ Cls K C ∧ NoAttr K C "whole" ∧ List.lookup ("whole" : Str) fs = some v ∧ Q v H := by
  obtain ⟨C, dx, wa, fs, hC, hs, f1, f2, f3, f4, hwa⟩ := h.ex
  rcases hC with rfl | rfl
  · exact ⟨s, _, dx, fs, _, rfl, hs, fx.c_Table, fx.n_Table_whole, f2, hq⟩
  · exact ⟨s, _, dx, fs, _, rfl, hs, fx.c_Machine, fx.n_Machine_whole, f2, hq⟩
def spKnown (K : PySem.W.Frag) : Sp := fun vs H Q _ => ∃ (s c : Addr) (W : List (Str × Int)) (R : List (Str × List Str)), vs = [.ref s, .ref c] ∧ Src K H s W ∧ ChAt K H c R ∧ (R.map Prod.fst).Nodup ∧ (∀ t ∈ W.map Prod.fst, t ∈ R.map Prod.fst) ∧ W.length < 64 ∧ ∀ H', Same H H' → Q .non H'
abbrev N_known : List PySem.Str := ["source", "changes", "text"]
theorem sc_known : FnScope N_known ["source", "changes"] (defScope s_known) := ⟨rfl, rfl, rfl, by decide +kernel, rfl, by decide +kernel, by decide +kernel⟩
theorem ok_known (fx : Fx K mg) : Cal P w K mg base CX0 2 "known" ["source", "changes"] (spKnown K) := by
  have met_Changes_of : Met P w K mg base CX0 1 (He.ga K "Changes") "of" ["self", "text"] (spOf K) := ok_of fx
  have met_Machine_texts : Met P w K mg base CX0 1 (He.ga K "Machine") "texts" ["self"] (spTx K (He.ga K "Machine")) := ok_txM fx
  have met_Table_texts : Met P w K mg base CX0 1 (He.ga K "Table") "texts" ["self"] (spTx K (He.ga K "Table")) := ok_txT fx
  refine Cal.of (st := s_known) fx.g_known fx.fd_known sc_known (fun _ _ _ _ _ _ _ us hl => match us, hl with | [_, _], _ => rfl) (fun vs H Q E h => by obtain ⟨s, c, W, R, rfl, _⟩ := h; rfl) fun f cdv A outer s H vs Q E hr h => ⟨_, PSs.nox (pss_one (ps_for PassesOwn.never rfl (pi_tupK (K := K) rfl (pe_or2 (pe_mt0 met_Table_texts hr (by decide) pass0 (pv 0)) (pe_mt0 met_Machine_texts hr (by decide) pass0 (pv 0)))) (pg_name (i := 2) sc_known.nd rfl (.inl rfl)) (pss_one (ps_expr (pe_mt met_Changes_of hr (by decide) pass0 (pv 1) (pa_cons (pv 2) pa_nil)))))), ?_⟩
  obtain ⟨s, c, W, R, rfl, hs, hc, nd, sub, hl, hq⟩ := h
  refine src_tx hs hl rfl fun a ys H1 m1 ha hp hso => ?_
  refine ⟨a, rfl, ⟨_, .inl (.inl ha)⟩, for_tup (xs := ys.map V.str) (fun i σ H' => Same H H' ∧ Same H1 H' ∧ ∃ o, σ = [some (.ref s), some (.ref c), o]) ⟨m1, Same.refl _, none, rfl⟩ ?_ ?_ ?_⟩
  · rintro i σ H' _ ⟨_, m, _⟩
    exact .inl (.inl (m _ _ ha))
  · rintro i y σ H' hy ⟨m, m', o, rfl⟩
    obtain ⟨t, ht, rfl⟩ := lt_map hy
    have tin : t ∈ R.map Prod.fst := sub t (hp.mem_iff.mp (List.mem_of_getElem? ht))
    obtain ⟨r, hr', rfl⟩ := List.mem_map.mp tin
    have hc' := hc.same m
    have hc2 := hc'
    obtain ⟨dx, d, e1, _⟩ := hc2
    exact ⟨_, rfl, c, dx, _, rfl, e1, rfl, _, rfl, c, r, R, rfl, hc', nd, hr', fun a _ => ⟨m, m', _, rfl⟩⟩
  · rintro σ H' ⟨m, _⟩
    exact hq H' m
/-! ### who is accused -/
def fitsR (acc rs : List Str) : Bool := rs.all fun t => decide (t ∈ acc)
theorem fitsR_congr {acc acc' rs rs' : List Str} (h : ∀ t, t ∈ acc ↔ t ∈ acc') (h' : ∀ t, t ∈ rs ↔ t ∈ rs') : fitsR acc rs = fitsR acc' rs' := by
  apply Bool.eq_iff_iff.mpr
  unfold fitsR
  rw [List.all_eq_true, List.all_eq_true]
  constructor
  · intro g x hx
    have := g x ((h' x).mpr hx)
    exact decide_eq_true ((h x).mp (of_decide_eq_true this))
  · intro g x hx
    have := g x ((h' x).mp hx)
    exact decide_eq_true ((h x).mpr (of_decide_eq_true this))
def spAcc (K : PySem.W.Frag) : Sp := fun vs H Q _ => ∃ (a r : Addr) (acc rs : List Str), vs = [.ref a, .ref r] ∧ (SqL K H a (acc.map V.str) ∨ SqT K H a (acc.map V.str)) ∧ Tt H r rs ∧ rs.length ≤ 1000 ∧ ∀ H', Same H H' → Q (.bl (fitsR acc rs)) H'
theorem Same.sqt {H H' : Hp} {a : Addr} {xs : List V} (e : Same H H') (h : SqT K H a xs) : SqT K H' a xs := by
  rcases h with (h | ⟨o, h⟩) | h
  · exact .inl (.inl (e _ _ h))
  · exact .inl (.inr ⟨o, e _ _ h⟩)
  · exact .inr h
theorem sq_same {H H' : Hp} {a : Addr} {xs : List V} (s : Same H H') (h : SqL K H a xs ∨ SqT K H a xs) : SqL K H' a xs ∨ SqT K H' a xs := h.elim (fun h => .inl (s.seq h)) fun h => .inr (Same.sqt s h)
abbrev N_accused_by : List PySem.Str := ["accused", "readable", "text"]
theorem sc_accused_by : FnScope N_accused_by ["accused", "readable"] (defScope s_accused_by) := ⟨rfl, rfl, rfl, by decide +kernel, rfl, by decide +kernel, by decide +kernel⟩
theorem ok_acc (fx : Fx K mg) : Cal P w K mg base CX0 1 "accused_by" ["accused", "readable"] (spAcc K) := by
  refine Cal.of (st := s_accused_by) fx.g_accused_by fx.fd_accused_by sc_accused_by (fun _ _ _ _ _ _ _ us hl => match us, hl with | [_, _], _ => rfl) (fun vs H Q E h => by obtain ⟨a, r, acc, rs, rfl, _⟩ := h; rfl) fun f cdv A outer s H vs Q E hr h => ⟨_, PSs.nox (pss_one (ps_ret (pe_callB (cr_allK (K := K) rfl rfl) rfl fx.f_all boot_all (pa_cons (pe_lc (own := [("text", 2)]) rfl sc_accused_by.nd (pi_tupK (K := K) rfl (pv 1)) (blkOk_by (N := N_accused_by) (sc := defScope s_accused_by) (by decide +kernel)) (fun _ _ _ _ _ => (pg_name (i := 2) sc_accused_by.nd rfl (.inl rfl))) (fun _ _ _ _ _ => pts_nil) (fun _ _ _ _ _ => (pe_cmpR (op_in_seqK (K := K) rfl) (pv 2) (pv 0) rfl))) pa_nil)))), ?_⟩
  obtain ⟨a, r, acc, rs, rfl, ha, hr', hl, hq⟩ := h
  refine ⟨_, rfl, r, rfl, ⟨_, .inl (.inl hr')⟩, fun D nD => ?_⟩
  refine lc_tup (K := K) (a := r) (xs := rs.map V.str) (fun j H' => H' = upd H D (.lst (((rs.take j).map fun t => decide (t ∈ acc)).map V.bl))) rfl ?_ ?_ ?_
  · rintro j H' _ rfl
    exact .inl (.inl (upd_at hr' nD))
  · rintro j y H' hy rfl
    obtain ⟨t, ht, rfl⟩ := lt_map hy
    have hil : j < rs.length := (List.getElem?_eq_some_iff.mp ht).1
    refine ⟨rfl, _, rfl, _, rfl, a, _, rfl, sq_same (same_new nD) ha, rfl, flat_strs _, _, upd_same, small1000 (by rw [List.length_map, List.length_map, List.length_take]; omega), ?_⟩
    rw [if_neg (by decide), inV_str, upd_upd, take_snoc ht]
    simp
  · rintro H' rfl
    rw [List.length_map, List.take_length]
    refine ⟨D, _, rfl, .inl (.inl upd_same), ?_⟩
    have e : ((rs.map fun t => decide (t ∈ acc)).all id) = fitsR acc rs := by
      rw [List.all_map]
      rfl
    rw [e]
    exact hq _ (same_new nD)
def spReach (K : PySem.W.Frag) : Sp := fun vs H Q _ => ∃ (a r : Addr) (acc rs : List Str), vs = [.ref a, .ref r] ∧ (SqL K H a (acc.map V.str) ∨ SqT K H a (acc.map V.str)) ∧ Lt H r rs ∧ Q (.bl (fitsR acc rs)) H
abbrev N_law_reaches : List PySem.Str := ["_law_accused", "_law_read", "_law_text_here"]
theorem sc_law_reaches : FnScope N_law_reaches ["_law_accused", "_law_read"] (defScope s_law_reaches) := ⟨rfl, rfl, rfl, by decide +kernel, rfl, by decide +kernel, by decide +kernel⟩
theorem ok_reach (fx : Fx K mg) : Cal P w K mg base CX0 1 "_law_reaches" ["_law_accused", "_law_read"] (spReach K) := by
  refine Cal.of (st := s_law_reaches) fx.g_law_reaches fx.fd_law_reaches sc_law_reaches (fun _ _ _ _ _ _ _ us hl => match us, hl with | [_, _], _ => rfl) (fun vs H Q E h => by obtain ⟨a, r, acc, rs, rfl, _⟩ := h; rfl) fun f cdv A outer s H vs Q E hr h => ⟨_, PSs.nox (pss_cons (ps_for PassesOwn.never rfl (pi_listK (K := K) rfl (pv 1)) (pg_name (i := 2) sc_law_reaches.nd rfl (.inl rfl)) (pss_one (ps_if (pt_cmpR (op_notIn_seqK (K := K) rfl) (pv 2) (pv 0) rfl) (pss_one (ps_ret pe_bl)) pss_nil))) (pss_one (ps_ret pe_bl))), ?_⟩
  obtain ⟨a, r, acc, rs, rfl, ha, hr', hq⟩ := h
  refine ⟨_, rfl, r, rfl, ⟨_, .inl (.inl hr')⟩, for_list (xs := rs.map V.str) (fun i σ H' => H' = H ∧ (∀ t ∈ rs.take i, t ∈ acc) ∧ ∃ o, σ = [some (.ref a), some (.ref r), o]) ⟨rfl, fun t h => (by cases h), none, rfl⟩ ?_ ?_ ?_⟩
  · rintro i σ H' _ ⟨rfl, _⟩
    exact .inl (.inl hr')
  · rintro i y σ H' hy ⟨rfl, hin, o, rfl⟩
    obtain ⟨t, ht, rfl⟩ := lt_map hy
    refine ⟨_, rfl, _, rfl, a, _, rfl, ha, rfl, flat_strs _, _, rfl, ?_⟩
    rw [if_pos rfl, inV_str]
    cases hd : decide (t ∈ acc) with
    | true =>
      have hd : t ∈ acc := of_decide_eq_true hd
      refine iteF ⟨rfl, fun u hu => ?_, _, rfl⟩
      rw [take_snoc ht] at hu
      rcases List.mem_append.mp hu with hu | hu
      · exact hin u hu
      · rw [List.mem_singleton.mp hu]
        exact hd
    | false =>
      have hd : ¬ t ∈ acc := of_decide_eq_false hd
      refine iteT ?_
      have e : fitsR acc rs = false := by
        cases e : fitsR acc rs with
        | false => rfl
        | true => exact absurd (of_decide_eq_true (List.all_eq_true.mp e t (List.mem_of_getElem? ht))) hd
      rw [e] at hq
      exact hq
  · rintro σ H' ⟨rfl, hin, o, rfl⟩
    rw [List.length_map, List.take_length] at hin
    have e : fitsR acc rs = true := List.all_eq_true.mpr fun t h => decide_eq_true (hin t h)
    rw [e] at hq
    exact hq
end Km
end

section
set_option Elab.async false
set_option linter.all false
set_option maxRecDepth 100000
set_option maxHeartbeats 4000000
set_option pp.maxSteps 700
/-! The bound of a lot: the law's and the module's. -/
namespace Km
open PySem PySem.Spec PyProof.Rows L2
variable {P : Program} {w : World} {K : PySem.W.Frag} {mg : Str → Option Value} {base : Heap}
def rdo (R : List (Str × List Str)) (t : Str) : List Str := (R.lookup t).getD []
def wsum (W : List (Str × Int)) : Int := (W.map Prod.snd).sum
def fsum (F : List (Int × List Str)) : Int := (F.map Prod.fst).sum
def isum (W : List (Str × Int)) (lot : List Str) : Int := (lot.map (wt W)).sum
def hits (R : List (Str × List Str)) (lot : List Str) (f : Int × List Str) : Bool := lot.any fun t => fitsR f.2 (rdo R t)
def metF (R : List (Str × List Str)) (F : List (Int × List Str)) (lot : List Str) : Int := ((F.filter (hits R lot)).map Prod.fst).sum
def bnum (W : List (Str × Int)) (R : List (Str × List Str)) (F : List (Int × List Str)) (lot : List Str) : Int := (wsum W - isum W lot) * fsum F + metF R F lot * wsum W
def bden (W : List (Str × Int)) (F : List (Int × List Str)) : Int := wsum W * fsum F
theorem bd40 {i : Int} (h0 : 0 ≤ i) (h : i ≤ 10 ^ 40) : Bd 134 i := by
  show i.natAbs < 2 ^ 134
  have e : (10 : Int) ^ 40 < 2 ^ 134 := by decide
  have : (i.natAbs : Int) < 2 ^ 134 := by omega
  exact_mod_cast this
theorem wt_bd {W : List (Str × Int)} (ok : WOk W) (t : Str) : 0 ≤ wt W t ∧ wt W t ≤ 10 ^ 40 := by
  unfold wt
  cases e : W.lookup t with
  | none => exact ⟨by decide, by decide⟩
  | some x =>
    have := ok.pos _ (lookup_mem e)
    exact ⟨by show 0 ≤ x; omega, this.2⟩
theorem sum_bd {ns : List Int} (h : ∀ i ∈ ns, 0 ≤ i ∧ i ≤ 10 ^ 40) (hl : ns.length < 2 ^ 11) : Bd 145 ns.sum :=
  (Bd.sums (k := 11) (fun i hi => bd40 (h i hi).1 (h i hi).2) hl).mono (by decide)
theorem wsum_bd {W : List (Str × Int)} (ok : WOk W) : Bd 145 (wsum W) := sum_bd (fun i hi => by
  obtain ⟨e, he, rfl⟩ := List.mem_map.mp hi
  have := ok.pos e he
  omega) (by rw [List.length_map]; have := ok.len; omega)
theorem fsum_bd {F : List (Int × List Str)} (ok : FOk F) : Bd 145 (fsum F) := sum_bd (fun i hi => by
  obtain ⟨e, he, rfl⟩ := List.mem_map.mp hi
  have := ok.pos e he
  omega) (by rw [List.length_map]; have := ok.len; omega)
theorem isum_bd {W : List (Str × Int)} {lot : List Str} (ok : WOk W) (hl : lot.length ≤ 1000) : Bd 145 (isum W lot) := sum_bd (fun i hi => by
  obtain ⟨t, _, rfl⟩ := List.mem_map.mp hi
  exact wt_bd ok t) (by rw [List.length_map]; omega)
theorem metF_bd {R : List (Str × List Str)} {F : List (Int × List Str)} {lot : List Str} (ok : FOk F) : Bd 145 (metF R F lot) := sum_bd (fun i hi => by
  obtain ⟨e, he, rfl⟩ := List.mem_map.mp hi
  have := ok.pos e (List.mem_filter.mp he).1
  omega) (by rw [List.length_map]; have := ok.len; have := List.length_filter_le (hits R lot) F; omega)
theorem Bd.sub {n m : Nat} {i j : Int} (h : Bd n i) (h' : Bd m j) (hm : m ≤ n) : Bd (n + 1) (i - j) := by
  have := h.add (j := -j) (m := m) (by unfold Bd at *; rwa [Int.natAbs_neg]) hm
  rwa [← Int.sub_eq_add_neg] at this
/-- a walk over a list or a tuple that stays -/
theorem or_seq {σ : L2.St} {H : Hp} {R : It → Hp → Prop} {i : Nat} {lo : Addr} {xs : List V} (hs : σ[i]? = some (some (.ref lo))) (h : SqL K H lo xs ∨ SqT K H lo xs)
    (hR : ∀ (J : It) (G : Hp → Prop), Walk J xs.length G (YAt xs) → (∀ H', Same H H' → G H') → R J H) : iList K (tVar i) σ H R ∨ iTup K (tVar i) σ H R := by
  rcases h with h | h
  · exact .inl ⟨_, hs, lo, rfl, ⟨_, h⟩, hR _ _ (walk_list (K := K) (a := lo)) fun H' s => s.seq h⟩
  · exact .inr ⟨_, hs, lo, rfl, ⟨_, h⟩, hR _ _ (walk_tup (K := K) (a := lo)) fun H' s => Same.sqt s h⟩
theorem any_filter (p : Str → Bool) (lot : List Str) : (0 : Int) < ((lot.filter p).length : Int) ↔ lot.any p = true := by
  rw [List.any_eq_true]
  constructor
  · intro h
    have : 0 < (lot.filter p).length := by omega
    obtain ⟨t, ht⟩ := List.exists_mem_of_length_pos this
    exact ⟨t, (List.mem_filter.mp ht).1, (List.mem_filter.mp ht).2⟩
  · rintro ⟨t, h1, h2⟩
    have := List.length_pos_of_mem (List.mem_filter.mpr ⟨h1, h2⟩)
    omega
theorem met_snoc (R : List (Str × List Str)) (F : List (Int × List Str)) (lot : List Str) (f : Int × List Str) : metF R (F ++ [f]) lot = metF R F lot + if hits R lot f = true then f.1 else 0 := by
  unfold metF
  rw [List.filter_append, List.map_append, List.sum_append]
  by_cases h : hits R lot f = true
  · rw [if_pos h, List.filter_cons, if_pos h]
    simp
  · rw [if_neg h, List.filter_cons, if_neg h]
    simp
theorem rdo_of {R : List (Str × List Str)} {r : Str × List Str} (nd : (R.map Prod.fst).Nodup) (h : r ∈ R) : rdo R r.1 = r.2 := by
  unfold rdo
  rw [lookup_some nd (x := r.2) h] <;> rfl
def spBound (K : PySem.W.Frag) : Sp := fun vs H Q _ => ∃ (wa d a lo : Addr) (W : List (Str × Int)) (R : List (Str × List Str)) (F : List (Int × List Str)) (lot : List Str), vs = [.ref wa, .ref d, .ref a, .ref lo] ∧ H wa = some (.dK (skv V.int W)) ∧ Rdb H d R ∧ FD H a F ∧
  (SqL K H lo (lot.map V.str) ∨ SqT K H lo (lot.map V.str)) ∧ WOk W ∧ FOk F ∧ (R.map Prod.fst).Nodup ∧ (∀ t ∈ lot, t ∈ W.map Prod.fst ∧ t ∈ R.map Prod.fst) ∧ lot.length ≤ 1000 ∧
  ∀ p H', Same H H' → H' p = some (.tup [.int (bnum W R F lot), .int (bden W F)]) → Q (.ref p) H'
abbrev N_law_bound : List PySem.Str := ["_law_weights", "_law_readable_here", "_law_finder_here", "_law_lot", "_law_full", "_law_whole_here", "_law_key", "_law_inside", "_law_text_here", "_law_met", "_law_weight", "_law_accused", "_law_good"]
theorem sc_law_bound : FnScope N_law_bound ["_law_weights", "_law_readable_here", "_law_finder_here", "_law_lot"] (defScope s_law_bound) := ⟨rfl, rfl, rfl, by decide +kernel, rfl, by decide +kernel, by decide +kernel⟩
theorem ok_bound (fx : Fx K mg) : Cal P w K mg base CX0 2 "_law_bound" ["_law_weights", "_law_readable_here", "_law_finder_here", "_law_lot"] (spBound K) := by
  have cal_law_reaches : Cal P w K mg base CX0 1 "_law_reaches" ["_law_accused", "_law_read"] (spReach K) := ok_reach fx
  refine Cal.of (st := s_law_bound) fx.g_law_bound fx.fd_law_bound sc_law_bound (fun _ _ _ _ _ _ _ us hl => match us, hl with | [_, _, _, _], _ => rfl) (fun vs H Q E h => by obtain ⟨wa, d, a, lo, W, R, F, lot, rfl, _⟩ := h; rfl) fun f cdv A outer s H vs Q E hr h => ⟨_, PSs.nox (pss_cons (ps_set (i := 4) sc_law_bound.nd rfl (.inl rfl) (pe_callB (cr_sumK (K := K) rfl rfl) rfl fx.f_sum boot_sum (pa_cons (pe_callTy (cr_listVals rfl) rfl fx.f_list boot_list (pa_cons (pe_bm0 PySem.F.plainAttrs_dict PySem.F.slot_dict_values PySem.F.type_dict_values mt_dvals (pv 0)) pa_nil)) pa_nil))) (pss_cons (ps_set (i := 5) sc_law_bound.nd rfl (.inl rfl) (pe_callB (cr_sumK (K := K) rfl rfl) rfl fx.f_sum boot_sum (pa_cons (pe_lc (own := [("_law_key", 6)]) rfl sc_law_bound.nd (pi_listK (K := K) rfl (pv 2)) (blkOk_by (N := N_law_bound) (sc := defScope s_law_bound) (by decide +kernel)) (fun _ _ _ _ _ => (pg_name (i := 6) sc_law_bound.nd rfl (.inl rfl))) (fun _ _ _ _ _ => pts_nil) (fun _ _ _ _ _ => (pe_ix (ix_tupK (K := K) rfl) (pv 6) pe_int (fun _ _ => rfl)))) pa_nil))) (pss_cons (ps_set (i := 7) sc_law_bound.nd rfl (.inl rfl) (pe_callB (cr_sumK (K := K) rfl rfl) rfl fx.f_sum boot_sum (pa_cons (pe_lc (own := [("_law_text_here", 8)]) rfl sc_law_bound.nd (pi_or (pi_listK (K := K) rfl (pv 3)) (pi_tupK (K := K) rfl (pv 3))) (blkOk_by (N := N_law_bound) (sc := defScope s_law_bound) (by decide +kernel)) (fun _ _ _ _ _ => (pg_name (i := 8) sc_law_bound.nd rfl (.inl rfl))) (fun _ _ _ _ _ => pts_nil) (fun _ _ _ _ _ => (pe_dget (hu_of hr) (pv 0) (pv 8) (fun _ _ => rfl)))) pa_nil))) (pss_cons (ps_set (i := 9) sc_law_bound.nd rfl (.inl rfl) pe_int) (pss_cons (ps_for PassesOwn.never rfl (pi_listK (K := K) rfl (pv 2)) (pg_tupK (K := K) (n := 2) rfl rfl (pgs_cons (pg_name (i := 10) sc_law_bound.nd rfl (.inl rfl)) (pgs_cons (pg_name (i := 11) sc_law_bound.nd rfl (.inr rfl)) pgs_nil))) (pss_cons (ps_setLc (i := 12) (own := [("_law_text_here", 8)]) rfl sc_law_bound.nd rfl rfl (sw_true rfl rfl rfl (by decide +kernel)) (pi_or (pi_listK (K := K) rfl (pv 3)) (pi_tupK (K := K) rfl (pv 3))) (blkOk_by (N := N_law_bound) (sc := defScope s_law_bound) (by decide +kernel)) (fun _ _ _ _ _ => (pg_name (i := 8) sc_law_bound.nd rfl (.inl rfl))) (fun _ _ _ _ _ => (pts_one (pt_val (pe_c cal_law_reaches hr (by decide) rfl pass0 (pa_cons (pv 11) (pa_cons (pe_dget (hu_of hr) (pv 1) (pv 8) (fun _ _ => rfl)) pa_nil)))))) (fun _ _ _ _ _ => (pv 8))) (pss_one (ps_if (pt_cmpR op_gt (pe_callB (call_lenK (K := K) rfl) rfl fx.f_len boot_len (pa_cons (pv 12) pa_nil)) pe_int (nomark _)) (pss_one (ps_set (i := 9) sc_law_bound.nd rfl (.inl rfl) (pe_op op_add (pv 9) (pv 10)))) pss_nil)))) (pss_one (ps_ret (pe_tup (pa_cons (pe_op op_add (pe_op op_mulW (pe_op op_sub (pv 4) (pv 7)) (pv 5)) (pe_op op_mulW (pv 9) (pv 4))) (pa_cons (pe_op op_mulW (pv 4) (pv 5)) pa_nil)))))))))), ?_⟩
  obtain ⟨wa, d, a, lo, W, R, F, lot, rfl, hwa, hR, hF, hlo, wok, fok, rnd, hsub, hll, hq⟩ := h
  have fl := fok.len
  have wl := wok.len
  refine ⟨_, rfl, .inr (.inr (.inl ⟨rfl, .inl ⟨_, hwa⟩⟩)), wa, _, rfl, rfl, hwa, fun p np npa => ⟨p, wa, _, rfl, upd_same, upd_at hwa np, fun l nl => ⟨l, W.map Prod.snd, rfl, .inl (.inl ?_), ?_⟩⟩⟩
  · show upd _ l _ l = _
    rw [upd_same, skv_vals]
  have m1 := same_upd (o := .lst ((skv V.int W).map (·.2))) (same_new (o := VwO p wa) np) (same_free (same_new (o := VwO p wa) np) nl)
  generalize upd (upd H p (VwO p wa)) l (.lst ((skv V.int W).map (·.2))) = H1 at m1
  obtain ⟨M, ha, hM⟩ := id hF
  refine ⟨_, rfl, a, rfl, ⟨_, .inl (.inl (m1 _ _ ha))⟩, fun D nD => ?_⟩
  refine lc_list (xs := M.map fun e => V.ref e.1) (fun j H' => H' = upd H1 D (.lst (((F.take j).map Prod.fst).map V.int))) rfl ?_ ?_ ?_
  · rintro j H' _ rfl
    exact .inl (.inl (upd_at (m1 _ _ ha) nD))
  · rintro j y H' hy rfl
    rw [List.getElem?_map] at hy
    obtain ⟨e, he, rfl⟩ := Option.map_eq_some_iff.mp hy
    obtain ⟨f, hf, g1, _⟩ := hM.r he
    have hil : j < F.length := (List.getElem?_eq_some_iff.mp hf).1
    refine ⟨rfl, _, rfl, e.1, _, _, _, rfl, rfl, .inl (.inl (upd_at (m1 _ _ g1) nD)), rfl, _, upd_same, small1000 (by rw [List.length_map, List.length_map, List.length_take]; omega), ?_⟩
    rw [upd_upd, take_snoc hf]
    simp
  rintro H' rfl
  rw [List.length_map, hM.1, List.take_length]
  refine ⟨D, F.map Prod.fst, rfl, .inl (.inl upd_same), ?_⟩
  have m2 := same_upd (o := .lst ((F.map Prod.fst).map V.int)) m1 (same_free m1 nD)
  generalize upd H1 D (.lst ((F.map Prod.fst).map V.int)) = H2 at m2
  refine or_seq rfl (sq_same m2 hlo) fun J G hw hG D2 nD2 => ?_
  refine lc_it hw (fun j H' => H' = upd H2 D2 (.lst (((lot.take j).map (wt W)).map V.int))) rfl ?_ ?_ ?_
  · rintro j H' _ rfl
    exact hG _ (same_new nD2)
  · rintro j y H' H'' hj rfl ⟨rfl, hy⟩
    obtain ⟨t, ht, rfl⟩ := lt_map hy
    have hil : j < lot.length := (List.getElem?_eq_some_iff.mp ht).1
    obtain ⟨tw, _⟩ := hsub t (List.mem_of_getElem? ht)
    obtain ⟨e, he, rfl⟩ := List.mem_map.mp tw
    have hv : valV (skv V.int W) (.inr e.1) = some (.int (wt W e.1)) := by
      unfold wt
      rw [skv_get, lookup_some wok.nd (x := e.2) he]
      rfl
    refine ⟨rfl, _, rfl, _, rfl, wa, _, rfl, .inl ⟨_, Sum.inr e.1, .inl (upd_at (m2 _ _ hwa) nD2), rfl, hv.symm⟩, _, upd_same, small1000 (by rw [List.length_map, List.length_map, List.length_take]; omega), ?_⟩
    rw [upd_upd, take_snoc ht]
    simp
  rintro H' rfl
  rw [List.length_map, List.take_length]
  refine ⟨D2, lot.map (wt W), rfl, .inl (.inl upd_same), ?_⟩
  have m3 := same_upd (o := .lst ((lot.map (wt W)).map V.int)) m2 (same_free m2 nD2)
  generalize upd H2 D2 (.lst ((lot.map (wt W)).map V.int)) = H3 at m3
  refine ⟨_, rfl, a, rfl, ⟨_, .inl (.inl (m3 _ _ ha))⟩, for_list (xs := M.map fun e => V.ref e.1) (fun i σ H' => Same H H' ∧ ∃ (o6 o8 o10 o11 o12 : Option V), σ = [some (.ref wa), some (.ref d), some (.ref a), some (.ref lo), some (.int (wsum W)), some (.int (fsum F)), o6, some (.int (isum W lot)), o8, some (.int (metF R (F.take i) lot)), o10, o11, o12])
    ⟨m3, none, none, none, none, none, rfl⟩ ?_ ?_ ?_⟩
  · rintro i σ H' _ ⟨m, _⟩
    exact .inl (.inl (m _ _ ha))
  · rintro i y σ H4 hy ⟨m4, o6, o8, o10, o11, o12, rfl⟩
    rw [List.getElem?_map] at hy
    obtain ⟨e, he, rfl⟩ := Option.map_eq_some_iff.mp hy
    obtain ⟨f, hf, g1, g2⟩ := hM.r he
    refine ⟨e.1, _, rfl, .inl (.inl (m4 _ _ g1)), rfl, _, _, rfl, _, _, rfl, rfl, ?_⟩
    refine or_seq rfl (sq_same m4 hlo) fun J G hw hG D3 nD3 => ?_
    have nD3H := same_free m4 nD3
    refine lc_it hw (fun j H' => H' = upd H4 D3 (.lst (((lot.take j).filter fun t => fitsR f.2 (rdo R t)).map V.str))) rfl ?_ ?_ ?_
    · rintro j H' _ rfl
      exact hG _ (same_new nD3)
    · rintro j y H' H'' hj rfl ⟨rfl, hy⟩
      obtain ⟨t, ht, rfl⟩ := lt_map hy
      have hil : j < lot.length := (List.getElem?_eq_some_iff.mp ht).1
      obtain ⟨_, tr⟩ := hsub t (List.mem_of_getElem? ht)
      obtain ⟨r, hr', rfl⟩ := List.mem_map.mp tr
      have m5 := same_upd (o := .lst (((lot.take j).filter fun t => fitsR f.2 (rdo R t)).map V.str)) m4 nD3H
      obtain ⟨ra, dg, hra⟩ := (hR.same m5).get rnd hr'
      refine ⟨rfl, _, rfl, _, rfl, _, rfl, d, .ref ra, rfl, dg, e.2, ra, f.2, r.2, rfl, .inl (.inl (.inl (m5 _ _ g2))), hra, _, rfl, ?_⟩
      have e1 : fitsR f.2 (rdo R r.1) = fitsR f.2 r.2 := by rw [rdo_of rnd hr']
      cases hf2 : fitsR f.2 r.2 with
      | true =>
        refine iteT ⟨_, rfl, _, upd_same, small1000 (by rw [List.length_map]; have := List.length_filter_le (fun t => fitsR f.2 (rdo R t)) (lot.take j); rw [List.length_take] at this; omega), ?_⟩
        rw [upd_upd, take_snoc ht, List.filter_append, List.filter_cons, if_pos (by rw [e1, hf2]), map_snoc]
        rfl
      | false =>
        refine iteF ?_
        rw [take_snoc ht, List.filter_append, List.filter_cons, if_neg (by rw [e1, hf2]; decide)]
        simp
    rintro H' rfl
    rw [List.length_map, List.take_length]
    have m5 := same_upd (o := .lst ((lot.filter fun t => fitsR f.2 (rdo R t)).map V.str)) m4 nD3H
    refine ⟨_, rfl, _, _, rfl, .inl ⟨_, .inl (.inl upd_same), rfl⟩, _, _, rfl, rfl, _, rfl, ite2 (fun z => ?_) fun z => ?_⟩
    · have z := of_decide_eq_true z
      rw [List.length_map] at z
      have hh : hits R lot f = true := (any_filter _ lot).mp z
      refine ⟨_, rfl, _, rfl, _, _, rfl, rfl, m5, o6, o8, some (.int f.1), some (.ref e.2), some (.ref D3), ?_⟩
      rw [take_snoc hf, met_snoc, if_pos hh]
      rfl
    · have hh : ¬ hits R lot f = true := fun hh => z (decide_eq_true (by rw [List.length_map]; exact (any_filter _ lot).mpr hh))
      refine ⟨m5, o6, o8, some (.int f.1), some (.ref e.2), some (.ref D3), ?_⟩
      rw [take_snoc hf, met_snoc, if_neg hh, Int.add_zero]
      rfl
  · rintro σ H4 ⟨m4, o6, o8, o10, o11, o12, rfl⟩
    rw [List.length_map, hM.1, List.take_length]
    have b1 := wsum_bd wok
    have b2 := fsum_bd fok
    have b3 := isum_bd (lot := lot) wok hll
    have b4 := metF_bd (R := R) (lot := lot) fok
    refine ⟨_, rfl, _, rfl, _, _, rfl, rfl, _, rfl, _, _, rfl, rfl, mulW_of ((b1.sub b3 (Nat.le_refl _)).mono (by decide)) (b2.mono (by decide)), ?_⟩
    refine ⟨_, rfl, _, rfl, _, _, rfl, rfl, mulW_of (b4.mono (by decide)) (b1.mono (by decide)), _, _, rfl, rfl, _, rfl, _, rfl, _, _, rfl, rfl, mulW_of (b1.mono (by decide)) (b2.mono (by decide)), by show 2 ≤ sizeLine; decide, fun t nt => ?_⟩
    exact hq t _ (same_upd m4 (same_free m4 nt)) upd_same
end Km
end

section
set_option Elab.async false
set_option linter.all false
set_option maxRecDepth 100000
set_option maxHeartbeats 4000000
set_option pp.maxSteps 700
/-! lot_bound. -/
namespace Km
open PySem PySem.Spec PyProof.Rows L2
theorem low_mul (k N D : Nat) (hk : 0 < k) : k * N / Nat.gcd (k * N) (k * D) = N / Nat.gcd N D := by
  rw [Nat.gcd_mul_left, Nat.mul_div_mul_left _ _ hk]
theorem sum_low (a b c d : Nat) (hb : 0 < b) (hd : 0 < d) :
    ((a / Nat.gcd a b) * (d / Nat.gcd c d) + (c / Nat.gcd c d) * (b / Nat.gcd a b)) / Nat.gcd ((a / Nat.gcd a b) * (d / Nat.gcd c d) + (c / Nat.gcd c d) * (b / Nat.gcd a b)) ((b / Nat.gcd a b) * (d / Nat.gcd c d)) = (a * d + c * b) / Nat.gcd (a * d + c * b) (b * d) ∧
    ((b / Nat.gcd a b) * (d / Nat.gcd c d)) / Nat.gcd ((a / Nat.gcd a b) * (d / Nat.gcd c d) + (c / Nat.gcd c d) * (b / Nat.gcd a b)) ((b / Nat.gcd a b) * (d / Nat.gcd c d)) = (b * d) / Nat.gcd (a * d + c * b) (b * d) := by
  obtain ⟨g, hg⟩ : ∃ g, g = Nat.gcd a b := ⟨_, rfl⟩
  obtain ⟨h, hh⟩ : ∃ h, h = Nat.gcd c d := ⟨_, rfl⟩
  have g0 : 0 < g := by rw [hg]; exact Nat.gcd_pos_of_pos_right _ hb
  have h0 : 0 < h := by rw [hh]; exact Nat.gcd_pos_of_pos_right _ hd
  obtain ⟨a', ea⟩ : g ∣ a := by rw [hg]; exact Nat.gcd_dvd_left _ _
  obtain ⟨b', eb⟩ : g ∣ b := by rw [hg]; exact Nat.gcd_dvd_right _ _
  obtain ⟨c', ec⟩ : h ∣ c := by rw [hh]; exact Nat.gcd_dvd_left _ _
  obtain ⟨d', ed⟩ : h ∣ d := by rw [hh]; exact Nat.gcd_dvd_right _ _
  rw [← hg, ← hh]
  have e1 : a / g = a' := by rw [ea, Nat.mul_div_cancel_left _ g0]
  have e2 : b / g = b' := by rw [eb, Nat.mul_div_cancel_left _ g0]
  have e3 : c / h = c' := by rw [ec, Nat.mul_div_cancel_left _ h0]
  have e4 : d / h = d' := by rw [ed, Nat.mul_div_cancel_left _ h0]
  rw [e1, e2, e3, e4]
  have n1 : a * d + c * b = g * h * (a' * d' + c' * b') := by
    rw [ea, eb, ec, ed, Nat.mul_add]
    congr 1
    · rw [Nat.mul_mul_mul_comm]
    · rw [Nat.mul_comm g h, Nat.mul_mul_mul_comm]
  have n2 : b * d = g * h * (b' * d') := by rw [eb, ed, Nat.mul_mul_mul_comm]
  rw [n1, n2]
  have k0 : 0 < g * h := Nat.mul_pos g0 h0
  refine ⟨(low_mul _ _ _ k0).symm, ?_⟩
  rw [Nat.gcd_mul_left, Nat.mul_div_mul_left _ _ k0]
variable {P : Program} {w : World} {K : PySem.W.Frag} {mg : Str → Option Value} {base : Heap}
theorem wsum_pos {W : List (Str × Int)} (ok : WOk W) : 0 < wsum W := by
  have h1 := ok.len.1
  have : ∀ W : List (Str × Int), (∀ e ∈ W, 1 ≤ e.2) → (W.length : Int) ≤ (W.map Prod.snd).sum := by
    intro W
    induction W with
    | nil => intro _; simp
    | cons e r ih =>
      intro h
      have a := h e (by simp)
      have b := ih fun x hx => h x (by simp [hx])
      rw [List.map_cons, List.sum_cons, List.length_cons]
      omega
  have := this W fun e he => (ok.pos e he).1
  show 0 < (W.map Prod.snd).sum
  omega
theorem fsum_pos {F : List (Int × List Str)} (ok : FOk F) : 0 < fsum F := by
  have h1 := ok.len.1
  have : ∀ F : List (Int × List Str), (∀ e ∈ F, 1 ≤ e.1) → (F.length : Int) ≤ (F.map Prod.fst).sum := by
    intro W
    induction W with
    | nil => intro _; simp
    | cons e r ih =>
      intro h
      have a := h e (by simp)
      have b := ih fun x hx => h x (by simp [hx])
      rw [List.map_cons, List.sum_cons, List.length_cons]
      omega
  have := this F fun e he => (ok.pos e he).1
  show 0 < (F.map Prod.fst).sum
  omega
theorem metF_nonneg {R : List (Str × List Str)} {F : List (Int × List Str)} {lot : List Str} (ok : FOk F) : 0 ≤ metF R F lot := by
  have : ∀ l : List Int, (∀ i ∈ l, 0 ≤ i) → 0 ≤ l.sum := by
    intro l
    induction l with
    | nil => intro _; simp
    | cons a r ih =>
      intro h
      have := h a (by simp)
      have := ih fun x hx => h x (by simp [hx])
      rw [List.sum_cons]
      omega
  refine this _ fun i hi => ?_
  obtain ⟨e, he, rfl⟩ := List.mem_map.mp hi
  have := ok.pos e (List.mem_filter.mp he).1
  omega
theorem src_wh {H : Hp} {s : Addr} {W : List (Str × Int)} (fx : Fx K mg) (h : Src K H s W) : ∃ C dx fs, Cls K C ∧ NoAttr K C "whole" ∧ H s = some (.ins C dx fs) ∧ List.lookup ("whole" : Str) fs = some (.int (wsum W)) := by
  obtain ⟨C, dx, wa, fs, hC, hs, f1, f2, f3, f4, hwa⟩ := h.ex
  rcases hC with rfl | rfl
  · exact ⟨_, dx, fs, fx.c_Table, fx.n_Table_whole, hs, f2⟩
  · exact ⟨_, dx, fs, fx.c_Machine, fx.n_Machine_whole, hs, f2⟩
theorem share_new {H : Hp} {x dx : Addr} (n d : Nat) (nx : H x = none) (nd : H dx = none) :
    Same H (upd (upd (upd H dx (.own x)) x (.ins (He.ga K "Share") dx [])) x (.ins (He.ga K "Share") dx [("over", .int ((n / Nat.gcd n d : Nat) : Int)), ("under", .int ((d / Nat.gcd n d : Nat) : Int))])) ∧
    ShareAt K (upd (upd (upd H dx (.own x)) x (.ins (He.ga K "Share") dx [])) x (.ins (He.ga K "Share") dx [("over", .int ((n / Nat.gcd n d : Nat) : Int)), ("under", .int ((d / Nat.gcd n d : Nat) : Int))])) x (n / Nat.gcd n d) (d / Nat.gcd n d) := by
  refine ⟨?_, dx, upd_same⟩
  rw [upd_upd]
  exact same_upd (same_new nd) nx
abbrev teW (K : PySem.W.Frag) : TE := fun σ H Q => tMeth (He.ga K "Table") "weight_of" (spWt K (He.ga K "Table")) [] E0 (tVar 0) (tCons (tVar 5) tNil) σ H Q ∨ tMeth (He.ga K "Machine") "weight_of" (spWt K (He.ga K "Machine")) [] E0 (tVar 0) (tCons (tVar 5) tNil) σ H Q
def spLb (K : PySem.W.Frag) : Sp := fun vs H Q _ => ∃ (s c a lo : Addr) (W : List (Str × Int)) (R : List (Str × List Str)) (F : List (Int × List Str)) (lot : List Str), vs = [.ref s, .ref c, .ref a, .ref lo] ∧ Src K H s W ∧ ChAt K H c R ∧ CP H a F ∧
  (SqL K H lo (lot.map V.str) ∨ SqT K H lo (lot.map V.str)) ∧ WOk W ∧ FOk F ∧ (R.map Prod.fst).Nodup ∧ (∀ r ∈ R, r.1 ∈ r.2) ∧ (∀ t ∈ W.map Prod.fst, t ∈ R.map Prod.fst) ∧ (∀ t ∈ lot, t ∈ R.map Prod.fst) ∧ lot.length ≤ 1000 ∧ isum W lot ≤ wsum W ∧
  ∀ x H', Same H H' → ShareAt K H' x ((bnum W R F lot).toNat / Nat.gcd (bnum W R F lot).toNat (bden W F).toNat) ((bden W F).toNat / Nat.gcd (bnum W R F lot).toNat (bden W F).toNat) → Q (.ref x) H'
abbrev N_lot_bound : List PySem.Str := ["source", "changes", "finder", "lot", "readable", "text", "whole", "weight", "accused", "finding", "texts", "left"]
theorem sc_lot_bound : FnScope N_lot_bound ["source", "changes", "finder", "lot"] (defScope s_lot_bound) := ⟨rfl, rfl, rfl, by decide +kernel, rfl, by decide +kernel, by decide +kernel⟩
theorem ok_lb (fx : Fx K mg) : Cal P w K mg base CX0 5 "lot_bound" ["source", "changes", "finder", "lot"] (spLb K) := by
  have cal_accused_by : Cal P w K mg base CX0 1 "accused_by" ["accused", "readable"] (spAcc K) := ok_acc fx
  have cal_known : Cal P w K mg base CX0 2 "known" ["source", "changes"] (spKnown K) := ok_known fx
  have mak_Share : Mak P w K mg base CX0 2 "Share" (He.ga K "Share") ["self", "over", "under"] (spShI K) := ok_shI fx
  have met_Changes_of : Met P w K mg base CX0 1 (He.ga K "Changes") "of" ["self", "text"] (spOf K) := ok_of fx
  have met_Machine_weight_of : Met P w K mg base CX0 1 (He.ga K "Machine") "weight_of" ["self", "text"] (spWt K (He.ga K "Machine")) := ok_wtM fx
  have met_Share___add__ : Met P w K mg base CX0 4 (He.ga K "Share") "__add__" ["self", "other"] (spAdd K) := ok_add fx
  have met_Table_weight_of : Met P w K mg base CX0 1 (He.ga K "Table") "weight_of" ["self", "text"] (spWt K (He.ga K "Table")) := ok_wtT fx
  refine Cal.of (st := s_lot_bound) fx.g_lot_bound fx.fd_lot_bound sc_lot_bound (fun _ _ _ _ _ _ _ us hl => match us, hl with | [_, _, _, _], _ => rfl) (fun vs H Q E h => by obtain ⟨s, c, a, lo, W, R, F, lot, rfl, _⟩ := h; rfl) fun f cdv A outer s H vs Q E hr h => ⟨_, PSs.nox (pss_cons (ps_expr (pe_c cal_known hr (by decide) rfl pass0 (pa_cons (pv 0) (pa_cons (pv 1) pa_nil)))) (pss_cons (ps_setLc (i := 4) (own := [("text", 5)]) rfl sc_lot_bound.nd rfl rfl (sw_true rfl rfl rfl (by decide +kernel)) (pi_or (pi_listK (K := K) rfl (pv 3)) (pi_tupK (K := K) rfl (pv 3))) (blkOk_by (N := N_lot_bound) (sc := defScope s_lot_bound) (by decide +kernel)) (fun _ _ _ _ _ => (pg_name (i := 5) sc_lot_bound.nd rfl (.inl rfl))) (fun _ _ _ _ _ => pts_nil) (fun _ _ _ _ _ => (pe_mt met_Changes_of hr (by decide) pass0 (pv 1) (pa_cons (pv 5) pa_nil)))) (pss_cons (ps_set (i := 6) sc_lot_bound.nd rfl (.inl rfl) (pe_callB (cr_sumK (K := K) rfl rfl) rfl fx.f_sum boot_sum (pa_cons (pe_lc (own := [("weight", 7), ("accused", 8)]) rfl sc_lot_bound.nd (pi_listK (K := K) rfl (pv 2)) (blkOk_by (N := N_lot_bound) (sc := defScope s_lot_bound) (by decide +kernel)) (fun _ _ _ _ _ => (pg_lstK (K := K) (n := 2) rfl rfl (pgs_cons (pg_name (i := 7) sc_lot_bound.nd rfl (.inl rfl)) (pgs_cons (pg_name (i := 8) sc_lot_bound.nd rfl (.inl rfl)) pgs_nil)))) (fun _ _ _ _ _ => pts_nil) (fun _ _ _ _ _ => (pv 7))) pa_nil))) (pss_cons (ps_set (i := 9) sc_lot_bound.nd rfl (.inl rfl) pe_int) (pss_cons (ps_for PassesOwn.never rfl (pi_listK (K := K) rfl (pv 2)) (pg_lstK (K := K) (n := 2) rfl rfl (pgs_cons (pg_name (i := 7) sc_lot_bound.nd rfl (.inl rfl)) (pgs_cons (pg_name (i := 8) sc_lot_bound.nd rfl (.inr rfl)) pgs_nil))) (pss_one (ps_if (pt_val (pe_callB (cr_anyK (K := K) rfl rfl) rfl fx.f_any boot_any (pa_cons (pe_lc (own := [("texts", 10)]) rfl sc_lot_bound.nd (pi_listK (K := K) rfl (pv 4)) (blkOk_by (N := N_lot_bound) (sc := defScope s_lot_bound) (by decide +kernel)) (fun _ _ _ _ _ => (pg_name (i := 10) sc_lot_bound.nd rfl (.inl rfl))) (fun _ _ _ _ _ => pts_nil) (fun _ _ _ _ _ => (pe_c cal_accused_by hr (by decide) rfl pass0 (pa_cons (pv 8) (pa_cons (pv 10) pa_nil))))) pa_nil))) (pss_one (ps_aug (i := 9) sc_lot_bound.nd rfl (.inl rfl) (pv 7) ip_add)) pss_nil))) (pss_cons (ps_set (i := 11) sc_lot_bound.nd rfl (.inl rfl) (pe_op op_sub (pe_fldK (K := K) rfl (pv 0) rfl) (pe_callB (cr_sumK (K := K) rfl rfl) rfl fx.f_sum boot_sum (pa_cons (pe_lc (own := [("text", 5)]) rfl sc_lot_bound.nd (pi_or (pi_listK (K := K) rfl (pv 3)) (pi_tupK (K := K) rfl (pv 3))) (blkOk_by (N := N_lot_bound) (sc := defScope s_lot_bound) (by decide +kernel)) (fun _ _ _ _ _ => (pg_name (i := 5) sc_lot_bound.nd rfl (.inl rfl))) (fun _ _ _ _ _ => pts_nil) (fun _ _ _ _ _ => (pe_or2 (pe_mt met_Table_weight_of hr (by decide) pass0 (pv 0) (pa_cons (pv 5) pa_nil)) (pe_mt met_Machine_weight_of hr (by decide) pass0 (pv 0) (pa_cons (pv 5) pa_nil))))) pa_nil)))) (pss_one (ps_ret (pe_op (op_addSh met_Share___add__ fx.selfShare hr (by decide)) (pe_mk mak_Share hr (by decide) rfl pass0 (pa_cons (pv 11) (pa_cons (pe_fldK (K := K) rfl (pv 0) rfl) pa_nil))) (pe_mk mak_Share hr (by decide) rfl pass0 (pa_cons (pv 9) (pa_cons (pv 6) pa_nil)))))))))))), ?_⟩
  obtain ⟨s, c, a, lo, W, R, F, lot, rfl, hs, hc, hF, hlo, wok, fok, rnd, rin, wr, lr, hll, hle, hq⟩ := h
  have fl := fok.len
  obtain ⟨sC, sx, sf, s1, s2, s3, s4⟩ := src_wh fx hs
  have wl := wok.len
  refine ⟨_, rfl, _, rfl, s, c, W, R, rfl, hs, hc, rnd, wr, by omega, fun H1 m1 => ?_⟩
  refine or_seq rfl (sq_same m1 hlo) fun J G hw hG D nD => ?_
  have nDH := same_free m1 nD
  refine lc_it hw (fun j H' => ∃ as : List Addr, H' = upd H1 D (.lst (as.map V.ref)) ∧ All2 (fun a t => ∃ r ∈ R, r.1 = t ∧ Kp H1 a r) as (lot.take j)) ⟨[], rfl, All2.nil⟩ ?_ ?_ ?_
  · rintro j H' _ ⟨as, rfl, _⟩
    exact hG _ (same_new nD)
  · rintro j y H' H'' hj ⟨as, rfl, has⟩ ⟨rfl, hy⟩
    obtain ⟨t, ht, rfl⟩ := lt_map hy
    have hil : j < lot.length := (List.getElem?_eq_some_iff.mp ht).1
    obtain ⟨r, hr', rfl⟩ := List.mem_map.mp (lr t (List.mem_of_getElem? ht))
    obtain ⟨dx', d', f1, L', f2, f3⟩ := hc.same m1
    refine ⟨rfl, _, rfl, c, dx', _, rfl, upd_at f1 nD, rfl, _, rfl, c, r, R, rfl, ⟨dx', d', upd_at f1 nD, L', upd_at f2 nD, f3.same (same_new nD)⟩, rnd, hr', fun q hq' => ⟨_, upd_same, small1000 (by rw [List.length_map, has.1, List.length_take]; omega), as ++ [q], ?_, ?_⟩⟩
    · rw [upd_upd]
      simp
    · rw [take_snoc ht]
      refine has.snoc ⟨r, hr', rfl, ?_⟩
      obtain ⟨ys, g1, g2⟩ := hq'
      have qD : q ≠ D := fun e => by
        rw [e] at g1
        exact absurd (upd_same.symm.trans (show upd H1 D (.lst (as.map V.ref)) D = some (.tup (ys.map V.str)) from g1)) (by intro h; cases h)
      have g1 : upd H1 D (.lst (as.map V.ref)) q = some (.tup (ys.map V.str)) := g1
      rw [upd_ne qD] at g1
      exact ⟨ys, g1, g2⟩
  rintro H' ⟨as, rfl, has⟩
  rw [List.length_map, List.take_length] at has
  have m2 := same_upd (o := .lst (as.map V.ref)) m1 nDH
  have hrd : upd H1 D (.lst (as.map V.ref)) D = some (.lst (as.map V.ref)) := upd_same
  have has2 : All2 (fun a t => ∃ r ∈ R, r.1 = t ∧ Kp (upd H1 D (.lst (as.map V.ref))) a r) as lot := has.mono fun a t ⟨r, h1, h2, h3⟩ => ⟨r, h1, h2, h3.same (same_new nD)⟩
  generalize upd H1 D (.lst (as.map V.ref)) = H2 at m2 hrd has2
  obtain ⟨M, ha, hM⟩ := id hF
  refine ⟨_, rfl, a, rfl, ⟨_, .inl (.inl (m2 _ _ ha))⟩, fun D2 nD2 => ?_⟩
  refine lc_list (xs := M.map fun e => V.ref e.1) (fun j H' => H' = upd H2 D2 (.lst (((F.take j).map Prod.fst).map V.int))) rfl ?_ ?_ ?_
  · rintro j H' _ rfl
    exact .inl (.inl (upd_at (m2 _ _ ha) nD2))
  · rintro j y H' hy rfl
    rw [List.getElem?_map] at hy
    obtain ⟨e, he, rfl⟩ := Option.map_eq_some_iff.mp hy
    obtain ⟨f, hf, g1, _⟩ := hM.r he
    have hil : j < F.length := (List.getElem?_eq_some_iff.mp hf).1
    refine ⟨e.1, _, rfl, .inl (.inl (upd_at (m2 _ _ g1) nD2)), rfl, _, _, rfl, _, _, rfl, rfl, rfl, _, rfl, _, upd_same, small1000 (by rw [List.length_map, List.length_map, List.length_take]; omega), ?_⟩
    rw [upd_upd, take_snoc hf]
    simp
  rintro H' rfl
  rw [List.length_map, hM.1, List.take_length]
  refine ⟨D2, F.map Prod.fst, rfl, .inl (.inl upd_same), ?_⟩
  have m3 := same_upd (o := .lst ((F.map Prod.fst).map V.int)) m2 (same_free m2 nD2)
  have hrd3 := upd_at (o := .lst ((F.map Prod.fst).map V.int)) hrd nD2
  have has3 : All2 (fun a t => ∃ r ∈ R, r.1 = t ∧ Kp (upd H2 D2 (.lst ((F.map Prod.fst).map V.int))) a r) as lot := has2.mono fun a t ⟨r, h1, h2, h3⟩ => ⟨r, h1, h2, h3.same (same_new nD2)⟩
  generalize upd H2 D2 (.lst ((F.map Prod.fst).map V.int)) = H3 at m3 hrd3 has3
  refine ⟨_, rfl, a, rfl, ⟨_, .inl (.inl (m3 _ _ ha))⟩, for_list (xs := M.map fun e => V.ref e.1) (fun i σ H' => Same H3 H' ∧ ∃ (o5 o7 o8 o10 : Option V), σ = [some (.ref s), some (.ref c), some (.ref a), some (.ref lo), some (.ref D), o5, some (.int (fsum F)), o7, o8, some (.int (metF R (F.take i) lot)), o10, none])
    ⟨Same.refl _, none, none, none, none, rfl⟩ ?_ ?_ ?_⟩
  · rintro i σ H' _ ⟨m, _⟩
    exact .inl (.inl (m _ _ (m3 _ _ ha)))
  · rintro i y σ H4 hy ⟨m4, o5, o7, o8, o10, rfl⟩
    have m4' := m3.trans m4
    rw [List.getElem?_map] at hy
    obtain ⟨e, he, rfl⟩ := Option.map_eq_some_iff.mp hy
    obtain ⟨f, hf, g1, g2⟩ := hM.r he
    refine ⟨e.1, _, rfl, .inl (.inl (m4' _ _ g1)), rfl, _, _, rfl, _, _, rfl, rfl, ?_⟩
    refine ⟨_, rfl, D, rfl, ⟨_, .inl (.inl (m4 _ _ hrd3))⟩, fun D3 nD3 => ?_⟩
    have nD33 := same_free m4 nD3
    refine lc_list (xs := as.map V.ref) (fun j H' => H' D3 = some (.lst (((lot.take j).map fun t => fitsR f.2 (rdo R t)).map V.bl)) ∧ Same H3 H') ⟨upd_same, same_upd m4 nD33⟩ ?_ ?_ ?_
    · rintro j H' _ ⟨_, m⟩
      exact .inl (.inl (m _ _ hrd3))
    · rintro j y H5 hy ⟨hD3, m5⟩
      rw [List.getElem?_map] at hy
      obtain ⟨q, hq', rfl⟩ := Option.map_eq_some_iff.mp hy
      obtain ⟨t, ht, r, hr', rfl, ys, k1, k2, k3, k4, k5⟩ := has3.r hq'
      have hil : j < lot.length := (List.getElem?_eq_some_iff.mp ht).1
      have m5' := m3.trans m5
      refine ⟨rfl, _, rfl, _, rfl, e.2, q, f.2, ys, rfl, .inl (.inl (.inl (m5' _ _ g2))), m5 _ _ k1, by omega, fun H6 m6 => ⟨_, m6 _ _ hD3, small1000 (by rw [List.length_map, List.length_map, List.length_take]; omega), ?_, same_upd (m5.trans m6) nD33⟩⟩
      have e1 : fitsR f.2 ys = fitsR f.2 (rdo R r.1) := by
        rw [rdo_of rnd hr']
        refine fitsR_congr (fun _ => Iff.rfl) fun t => ?_
        rw [k4]
        constructor
        · rintro (rfl | h)
          · exact rin r hr'
          · exact h
        · exact .inr
      rw [upd_same, take_snoc ht, e1]
      simp
    rintro H5 ⟨hD3, m5⟩
    rw [List.length_map, has3.1, List.take_length] at hD3
    refine ⟨D3, _, rfl, .inl (.inl hD3), _, rfl, ite2 (fun z => ?_) fun z => ?_⟩
    · have hh : hits R lot f = true := by
        rw [List.any_map] at z
        exact z
      refine ⟨_, rfl, _, rfl, _, _, rfl, rfl, m5, o5, some (.int f.1), some (.ref e.2), o10, ?_⟩
      rw [take_snoc hf, met_snoc, if_pos hh]
      rfl
    · have hh : ¬ hits R lot f = true := fun hh => z (by rw [List.any_map]; exact hh)
      refine ⟨m5, o5, some (.int f.1), some (.ref e.2), o10, ?_⟩
      rw [take_snoc hf, met_snoc, if_neg hh, Int.add_zero]
      rfl
  · rintro σ H4 ⟨m4, o5, o7, o8, o10, rfl⟩
    rw [List.length_map, hM.1, List.take_length]
    have m4 := m3.trans m4
    refine ⟨_, rfl, s, sC, sx, sf, _, rfl, m4 _ _ s3, s1, s2, s4, ?_⟩
    refine or_seq rfl (sq_same m4 hlo) fun J G hw hG D4 nD4 => ?_
    have nD4H := same_free m4 nD4
    refine lc_it (te := teW K) hw (fun j H' => H' = upd H4 D4 (.lst (((lot.take j).map (wt W)).map V.int))) rfl ?_ ?_ ?_
    · rintro j H' _ rfl
      exact hG _ (same_new nD4)
    · rintro j y H' H'' hj rfl ⟨rfl, hy⟩
      obtain ⟨t, ht, rfl⟩ := lt_map hy
      have hil : j < lot.length := (List.getElem?_eq_some_iff.mp ht).1
      refine ⟨rfl, src_wt (hs.same (same_upd m4 nD4H)) rfl rfl ⟨_, upd_same, small1000 (by rw [List.length_map, List.length_map, List.length_take]; omega), ?_⟩⟩
      rw [upd_upd, take_snoc ht]
      simp
    rintro H' rfl
    rw [List.length_map, List.take_length]
    refine ⟨D4, lot.map (wt W), rfl, .inl (.inl upd_same), _, _, rfl, rfl, ?_⟩
    have m5 := same_upd (o := .lst ((lot.map (wt W)).map V.int)) m4 nD4H
    generalize upd H4 D4 (.lst ((lot.map (wt W)).map V.int)) = H5 at m5
    have b1 := wsum_bd wok
    have b2 := fsum_bd fok
    have b3 := isum_bd (lot := lot) wok hll
    have b4 := metF_bd (R := R) (lot := lot) fok
    have b5 := b1.sub b3 (Nat.le_refl _)
    have p1 := wsum_pos wok
    have p2 := fsum_pos fok
    have p4 := metF_nonneg (R := R) (lot := lot) fok
    have hnum : bnum W R F lot = (wsum W - isum W lot) * fsum F + metF R F lot * wsum W := rfl
    have hden : bden W F = wsum W * fsum F := rfl
    obtain ⟨n1, e1⟩ : ∃ n : Nat, wsum W - isum W lot = (n : Int) := ⟨_, (Int.toNat_of_nonneg (by omega)).symm⟩
    obtain ⟨d1, e2⟩ : ∃ n : Nat, wsum W = (n : Int) := ⟨_, (Int.toNat_of_nonneg (by omega)).symm⟩
    obtain ⟨n2, e3⟩ : ∃ n : Nat, metF R F lot = (n : Int) := ⟨_, (Int.toNat_of_nonneg (by omega)).symm⟩
    obtain ⟨d2, e4⟩ : ∃ n : Nat, fsum F = (n : Int) := ⟨_, (Int.toNat_of_nonneg (by omega)).symm⟩
    have q1 : 0 < d1 := by omega
    have q2 : 0 < d2 := by omega
    rw [e1, e2, e3, e4] at hnum
    rw [e2, e4] at hden
    have t1 : (bnum W R F lot).toNat = n1 * d2 + n2 * d1 := by rw [hnum]; omega
    have t2 : (bden W F).toNat = d1 * d2 := by rw [hden]; omega
    rw [t1, t2] at hq
    have b1' := b1
    have b2' := b2
    rw [e1] at b5
    rw [e2] at b1
    rw [e3] at b4
    rw [e4] at b2
    refine ⟨_, rfl, _, rfl, s, sC, sx, sf, _, rfl, m5 _ _ s3, s1, s2, s4, fun x1 z1 nx1 nz1 ne1 => ⟨x1, z1, n1, d1, ?_, q1, b5.mono (by decide), b1.mono (by decide), upd_same, rfl, ?_⟩⟩
    · show [V.ref x1, .int (wsum W - isum W lot), .int (wsum W)] = _
      rw [e1, e2]
    obtain ⟨m6, hx1⟩ := share_new (K := K) n1 d1 nx1 nz1
    generalize upd (upd (upd H5 z1 (.own x1)) x1 (.ins (He.ga K "Share") z1 [])) x1 (.ins (He.ga K "Share") z1 [("over", .int ((n1 / Nat.gcd n1 d1 : Nat) : Int)), ("under", .int ((d1 / Nat.gcd n1 d1 : Nat) : Int))]) = H6 at m6 hx1
    refine ⟨_, rfl, _, rfl, fun x2 z2 nx2 nz2 ne2 => ⟨x2, z2, n2, d2, ?_, q2, b4.mono (by decide), b2.mono (by decide), upd_same, rfl, ?_⟩⟩
    · show [V.ref x2, .int (metF R F lot), .int (fsum F)] = _
      rw [e3, e4]
    obtain ⟨m7, hx2⟩ := share_new (K := K) n2 d2 nx2 nz2
    generalize upd (upd (upd H6 z2 (.own x2)) x2 (.ins (He.ga K "Share") z2 [])) x2 (.ins (He.ga K "Share") z2 [("over", .int ((n2 / Nat.gcd n2 d2 : Nat) : Int)), ("under", .int ((d2 / Nat.gcd n2 d2 : Nat) : Int))]) = H7 at m7 hx2
    have hx1' := hx1.same m7
    obtain ⟨y1, g1⟩ := id hx1'
    obtain ⟨y2, g2⟩ := id hx2
    have dle : ∀ (a b : Nat) {k : Nat}, Bd k (a : Int) → Bd k ((a / b : Nat) : Int) := fun a b k h => h.le (Int.natCast_nonneg _) (Int.ofNat_le.mpr (Nat.div_le_self _ _))
    refine ⟨x1, y1, _, x2, y2, _, rfl, rfl, g1, g2, x1, x2, _, _, _, _, rfl, hx1', hx2, Nat.div_pos (Nat.gcd_le_right _ q1) (Nat.gcd_pos_of_pos_right _ q1), Nat.div_pos (Nat.gcd_le_right _ q2) (Nat.gcd_pos_of_pos_right _ q2),
      (dle _ _ b5).mono (by decide), (dle _ _ b1).mono (by decide), (dle _ _ b4).mono (by decide), (dle _ _ b2).mono (by decide), fun x H8 m8 h8 => ?_⟩
    rw [(sum_low n1 d1 n2 d2 q1 q2).1, (sum_low n1 d1 n2 d2 q1 q2).2] at h8
    exact hq x H8 (m5.trans (m6.trans (m7.trans m8))) h8
end Km
end

section
set_option Elab.async false
set_option linter.all false
set_option maxRecDepth 100000
set_option maxHeartbeats 4000000
/-! sorted(a tuple of texts). -/
namespace Km
open PySem PySem.Spec PyProof.Rows L2
section
variable {prog : Program} {w : World} {A : Around} {E : Value → Shared → Prop} {s : Shared}
/-- what a tuple holds, collected into a list; the heap has grown -/
theorem collect_tup {Q : List Value → Shared → Prop} {it : Addr} {o : Obj} {items : Array Value} {n : Nat} (ho : s.heap.get? it = some o) (hc : o.cls = .type "tuple") (hd : o.data = .seq items n) (hz : items.size ≤ sizeLine)
    (hQ : ∀ h' : Heap, s.heap.objs.size ≤ h'.objs.size → (∀ b u, s.heap.get? b = some u → h'.get? b = some u) → Q items.toList { s with heap := h' }) : wpAny (model prog w) A (collect (.ref it)) Q E s := by
  let L : Obj := { cls := .type "list", data := .seq ([] : List Value).toArray }
  let h1 := s.heap.push L
  let h2 := h1.update s.heap.objs.size (Obj.mapSeq (· ++ items))
  have g1 : h1.get? s.heap.objs.size = some L := Heap.get?_push_size _ rfl
  have g2 : h2.get? s.heap.objs.size = _ := Heap.get?_update_self (Obj.mapSeq (· ++ items)) g1 rfl
  have big : s.heap.objs.size ≤ h2.objs.size := by
    rw [show h2.objs.size = h1.objs.size from Heap.size_update _ _ _, show h1.objs.size = s.heap.objs.size + 1 from Heap.size_push _ _]
    exact Nat.le_succ _
  have kept : ∀ b u, s.heap.get? b = some u → h2.get? b = some u := fun b u hb =>
    (Heap.get?_update_other _ _ (Nat.ne_of_gt (Heap.lt_size hb))).trans (Heap.get?_push_of_some _ hb)
  have all : ((#[] : Array Value) ++ items).toList = items.toList := by simp
  have rest : wpAny (model prog w) A (do match (← load s.heap.objs.size).data with | Data.seq xs _ => pure xs.toList | _ => unsupported "internal:collect") Q E { s with heap := h2 } := by
    refine wpAny_bind (wpAny_load g2 (wpAny_pure ?_))
    show Q ((#[] : Array Value) ++ items).toList _
    rw [all]
    exact hQ h2 big kept
  unfold collect
  refine wpAny_bind (wpAny_runValue (codeAny_builtin F.entry_proto_collect ?_))
  rw [Around.under_plainId F.plain_proto_collect _]
  refine wpAny_bind (wpAny_newObj_type (wpAny_pure ⟨plainId_quiet F.plain_list_iadd _, codeAny_builtin F.entry_list_iadd ?_⟩))
  rw [Around.under_plainId F.plain_list_iadd _]
  refine wpAny_mono (wpAny_extend_seq (hsz := hz) (A := A) (R := fun r s' => r = .ok (.ret (.ref s.heap.objs.size)) ∧ s' = { s with heap := h2 }) (s := { s with heap := h1 }) _ it _ 0 (.inr rfl) g1 (Heap.get?_push_of_some _ ho) hc hd ⟨rfl, rfl⟩) (fun fin s' h => ?_) fun e s' h => absurd h.1 (by simp)
  cases fin with
  | done f =>
    obtain ⟨e, rfl⟩ := h
    cases e
    exact rest
  | again c =>
    refine ⟨h.1, codeAny_mono h.2 fun r s2 hr => ?_⟩
    obtain ⟨rfl, rfl⟩ := hr
    exact rest
end
section
variable {X : Cx}
def rSortTT (K : PySem.W.Frag) : List V → Hp → VK → Prop := fun vs H Q => ∃ (a : Addr) (xs : List Str), vs = [V.ref a] ∧ SqT K H a (xs.map V.str) ∧ xs.length ≤ 1000 ∧
  ∀ (ys : List Str) (p : Addr), ys.Perm xs → sortedS ys = true → H p = none → Q (.ref p) (upd H p (.lst (ys.map V.str)))
theorem cr_sortTT : CallR X (.builtin "sorted") (rSortTT X.K) := by
  intro pins s σ H vs us Q I r q
  obtain ⟨a, xs, rfl, ha, hn, q⟩ := q
  obtain ⟨its, rv, ⟨o, ho, hc, n, hd⟩, hz0⟩ := I.tuple ha
  rw [Vals.ref1 r]
  refine Calls.call_function_entry kind_sorted plain_sorted entry_sorted (args_sorted1 _) ?_
  unfold Builtin.«sorted»
  refine wpAny_bind (m := checkCount "sorted" 1 1 _) (wpAny_pure ?_)
  have hS := rv.strs
  have hlen := rv.length
  rw [List.length_map] at hlen hz0
  have hzl : its.length ≤ sizeLine := by rw [← hlen]; exact hz0
  refine wpAny_bind (collect_tup (A := X.A.in1) ho hc hd (by simpa using hzl) fun h1 hz k1 => ?_)
  refine wpAny_bind (wpAny_newList ?_ hzl)
  have hoL : (h1.push (seqObj "list" its.toArray 0)).get? h1.objs.size = some (seqObj "list" its.toArray 0) := Heap.get?_push_size _ rfl
  refine wpAny_bind (wpAny_holding (wpAny_call_entry slot_list_sort ⟨_, hoL, rfl⟩ entry_list_sort
    (list_sort_treeKAny strKind_oneLt hoL hS.keysOf (fun v₁ v₂ rest e => keyKind_strs (by rw [← e]; exact hS)) hzl fun st' hp hs => ⟨_, rfl, ?_⟩) (args_list_sort _)))
  obtain ⟨ys, a1, a2, a3⟩ := sorted_out_str hS hp hs
  obtain ⟨c, hc'⟩ := sortedHeap_at (vs := its) (out := (arrOf st').map (·.2)) hoL
  have hyl : (ys.map V.str).length ≤ sizeLine := by rw [List.length_map, a2.length_eq]; exact hz0
  have kk : ∀ b u, s.heap.get? b = some u → (sortedHeap (h1.push (seqObj "list" its.toArray 0)) h1.objs.size its ((arrOf st').map (·.2))).get? b = some u := fun b u e => by
    have q := k1 b u e
    have hlt := Heap.lt_size q
    rw [sortedHeap_old (Nat.ne_of_lt hlt) (by rw [size_push']; exact Nat.lt_succ_of_lt hlt)]
    exact Heap.get?_push_of_some _ q
  have hp0 : H h1.objs.size = none := I.hok.fresh hz
  refine wpAny_pure ⟨_, rfl, ?_⟩
  have J : Inv X pins σ (upd H h1.objs.size (.lst (ys.map V.str))) { s with heap := sortedHeap (h1.push (seqObj "list" its.toArray 0)) h1.objs.size its ((arrOf st').map (·.2)) } :=
    I.call (ch := []) (Un.laid kk hz hp0) (I.hok.laid kk hz ⟨hyl, ((arrOf st').map (·.2)).toList, c, vals_of_strs a1, by rw [Array.toArray_toList]; exact hc'⟩) I.bare (fun _ z => nomatch z)
  exact ⟨.ref h1.objs.size, _, J, rfl, q ys _ a2 a3 hp0⟩
theorem cr_sortTTK {K : PySem.W.Frag} (hK : X.K = K) : CallR X (.builtin "sorted") (rSortTT K) := by subst hK; exact cr_sortTT
end
end Km
end

section
set_option linter.all false
/-! The order of texts. -/
namespace Km
open PySem PySem.Spec PyProof.Rows
def ltS (a b : Str) : Prop := ltCps a.cps.toList b.cps.toList = true
theorem ltS_iff {a b : Str} : ltS a b ↔ a.cps.toList < b.cps.toList := by
  unfold ltS
  rw [ltCps_eq, decide_eq_true_eq]
theorem ltS_irr (a : Str) : ¬ ltS a a := fun h => List.lt_irrefl _ (ltS_iff.mp h)
theorem ltS_trans {a b c : Str} (h : ltS a b) (h' : ltS b c) : ltS a c := ltS_iff.mpr (List.lt_trans (ltS_iff.mp h) (ltS_iff.mp h'))
theorem ltS_asym {a b : Str} (h : ltS a b) : ¬ ltS b a := fun h' => ltS_irr a (ltS_trans h h')
theorem ltS_anti {a b : Str} (h : ¬ ltS a b) (h' : ¬ ltS b a) : a = b := by
  rw [ltS_iff] at h h'
  exact Str.ext' (Array.toList_inj.mp (List.le_antisymm (List.not_lt.mp h') (List.not_lt.mp h)))
theorem leS_trans {a b c : Str} (h : ¬ ltS b a) (h' : ¬ ltS c b) : ¬ ltS c a := by
  rw [ltS_iff] at *
  rw [List.not_lt] at *
  exact List.le_trans h h'
theorem rising_pw : ∀ (l : List Str) (p : Str), risingS p l = true → (p :: l).Pairwise fun a b => ¬ ltS b a
  | [], p, _ => by simp
  | x :: r, p, h => by
    have h : (!ltCps x.cps.toList p.cps.toList && risingS x r) = true := h
    obtain ⟨h1, h2⟩ := Bool.and_eq_true_iff.mp h
    have h1 : ¬ ltS x p := by
      unfold ltS
      simpa using h1
    have ih := rising_pw r x h2
    refine List.pairwise_cons.mpr ⟨fun y hy => ?_, ih⟩
    rcases List.mem_cons.mp hy with rfl | hy
    · exact h1
    · exact leS_trans h1 ((List.pairwise_cons.mp ih).1 y hy)
theorem sorted_pw : ∀ {l : List Str}, sortedS l = true → l.Pairwise fun a b => ¬ ltS b a
  | [], _ => .nil
  | x :: r, h => rising_pw r x h
theorem pw_sorted {l : List Str} (h : l.Pairwise fun a b => ¬ ltS b a) : sortedS l = true := sortedS_of_pairwise l (h.imp fun h => by
  unfold ltS at h
  simpa using h)
theorem sorted_lt {l : List Str} (h : sortedS l = true) (nd : l.Nodup) : l.Pairwise ltS :=
  (List.pairwise_and_iff.mpr ⟨sorted_pw h, nd⟩).imp fun ⟨h1, h2⟩ => Classical.byContradiction fun h3 => h2 (ltS_anti h3 h1)
theorem sorted_uniq {l l' : List Str} (h : sortedS l = true) (h' : sortedS l' = true) (p : l.Perm l') : l = l' :=
  p.eq_of_pairwise (le := fun a b => ¬ ltS b a) (fun a b _ _ h1 h2 => (ltS_anti h1 h2).symm) (sorted_pw h) (sorted_pw h')
theorem sorted_lt_at {l : List Str} (h : l.Pairwise ltS) {i j : Nat} {a b : Str} (hij : i < j) (ha : l[i]? = some a) (hb : l[j]? = some b) : ltS a b := by
  obtain ⟨hi, rfl⟩ := List.getElem?_eq_some_iff.mp ha
  obtain ⟨hj, rfl⟩ := List.getElem?_eq_some_iff.mp hb
  exact List.pairwise_iff_getElem.mp h i j hi hj hij
end Km
end

section
set_option Elab.async false
set_option linter.all false
set_option maxRecDepth 100000
set_option maxHeartbeats 4000000
set_option pp.maxSteps 700
/-! Markings, and the judge. -/
namespace Km
open PySem PySem.Spec PyProof.Rows L2
variable {P : Program} {w : World} {K : PySem.W.Frag} {mg : Str → Option Value} {base : Heap}
def spChTx (K : PySem.W.Frag) : Sp := fun vs H Q _ => ∃ (c : Addr) (R : List (Str × List Str)), vs = [.ref c] ∧ ChAt K H c R ∧ R.length < 64 ∧ ∀ a ys H', Same H H' → Tt H' a ys → ys.Perm (R.map Prod.fst) → Q (.ref a) H'
abbrev N_Changes_texts : List PySem.Str := ["self"]
theorem sc_Changes_texts : FnScope N_Changes_texts ["self"] (defScope s_Changes_texts) := ⟨rfl, rfl, rfl, by decide +kernel, rfl, by decide +kernel, by decide +kernel⟩
theorem ok_chTx (fx : Fx K mg) : Met P w K mg base CX0 1 (He.ga K "Changes") "texts" ["self"] (spChTx K) := by
  refine Met.of (p := ("Changes", some "texts")) (st := s_Changes_texts) fx.c_Changes fx.m_Changes_texts fx.fd_Changes_texts sc_Changes_texts (fun _ _ _ _ _ _ _ us hl => match us, hl with | [_], _ => rfl) (fun vs H Q E h => by obtain ⟨c, R, rfl, _⟩ := h; rfl) fun f cdv A outer s H vs Q E hr h => ⟨_, PSs.nox (pss_one (ps_ret (pe_tupleOfK (K := K) rfl rfl fx.f_tuple (pe_callB (call_sortedD rfl) rfl fx.f_sorted boot_sorted (pa_cons (pe_fldK (K := K) rfl (pv 0) rfl) pa_nil))))), ?_⟩
  obtain ⟨c, R, rfl, ⟨dx, d, hc, L, hd, hL⟩, hl, hq⟩ := h
  refine ⟨_, rfl, c, _, dx, _, _, rfl, hc, fx.c_Changes, fx.n_Changes_kept, rfl, d, _, L.map Prod.fst, rfl, .inl hd, skv_keys L, by rw [List.length_map, hL.1]; exact hl, fun ys p hp hso np => ?_⟩
  exact .inl ⟨p, _, rfl, .inl (.inl upd_same), fun q nq => hq q ys _ (same_upd (same_new np) (same_free (same_new np) nq)) upd_same (by rw [← hL.keys]; exact hp)⟩
/-! ### entries -/
abbrev Ent := Int × Str × List Str
def EnR (H : Hp) (e : Addr × Addr) (x : Ent) : Prop := H e.1 = some (.tup [.int x.1, .str x.2.1, .ref e.2]) ∧ Tt H e.2 x.2.2
theorem EnR.same {H H' : Hp} {e : Addr × Addr} {x : Ent} (h : EnR H e x) (s : Same H H') : EnR H' e x := ⟨s _ _ h.1, s _ _ h.2⟩
def EnL (H : Hp) (l : Addr) (ES : List Ent) : Prop := ∃ L : List (Addr × Addr), H l = some (.lst (L.map fun e => V.ref e.1)) ∧ All2 (EnR H) L ES
def EnT (H : Hp) (l : Addr) (ES : List Ent) : Prop := ∃ L : List (Addr × Addr), H l = some (.tup (L.map fun e => V.ref e.1)) ∧ All2 (EnR H) L ES
theorem EnT.same {H H' : Hp} {l : Addr} {ES : List Ent} (h : EnT H l ES) (s : Same H H') : EnT H' l ES := let ⟨L, a, b⟩ := h; ⟨L, s _ _ a, b.mono fun _ _ r => r.same s⟩
def esum (ES : List Ent) : Int := (ES.map Prod.fst).sum
theorem esum_snoc (ES : List Ent) (r : Ent) : esum (ES ++ [r]) = esum ES + r.1 := by
  unfold esum
  rw [List.map_append, List.sum_append]
  simp
def MkAt (K : PySem.W.Frag) (H : Hp) (m : Addr) (ES : List Ent) : Prop := ∃ dx te, H m = some (.ins (He.ga K "Marking") dx [("entries", .ref te), ("whole", .int (esum ES))]) ∧ EnT H te ES
theorem MkAt.same {H H' : Hp} {m : Addr} {ES : List Ent} (h : MkAt K H m ES) (s : Same H H') : MkAt K H' m ES := let ⟨dx, te, a, b⟩ := h; ⟨dx, te, s _ _ a, b.same s⟩
structure EOk (ES : List Ent) : Prop where
  len : 1 ≤ ES.length ∧ ES.length ≤ 600
  pos : ∀ x ∈ ES, 1 ≤ x.1 ∧ Bd 1000 x.1
  acc : ∀ x ∈ ES, sortedS x.2.2 = true ∧ x.2.2.length ≤ 40
def spMkI (K : PySem.W.Frag) : Sp := fun vs H Q _ => ∃ (x dx l : Addr) (ES : List Ent), vs = [.ref x, .ref l] ∧ H x = some (.ins (He.ga K "Marking") dx []) ∧ EnL H l ES ∧ EOk ES ∧
  ∀ H' te, Sm x H H' → H' x = some (.ins (He.ga K "Marking") dx [("entries", .ref te), ("whole", .int (esum ES))]) → EnT H' te ES → Q .non H'
abbrev N_Marking_init : List PySem.Str := ["self", "entries", "kept", "whole", "at", "weight", "text", "accused"]
theorem sc_Marking_init : FnScope N_Marking_init ["self", "entries"] (defScope s_Marking_init) := ⟨rfl, rfl, rfl, by decide +kernel, rfl, by decide +kernel, by decide +kernel⟩
theorem ok_mkI (fx : Fx K mg) : Mak P w K mg base CX0 1 "Marking" (He.ga K "Marking") ["self", "entries"] (spMkI K) := by
  refine Mak.of (p := ("Marking", some "__init__")) (st := s_Marking_init) fx.g_Marking fx.k_Marking fx.fd_Marking_init sc_Marking_init (fun _ _ _ _ _ _ _ us hl => match us, hl with | [_, _], _ => rfl) (fun vs H Q E h => by obtain ⟨x, dx, l, ES, rfl, _⟩ := h; rfl) fun f cdv A outer s H vs Q E hr h => ⟨_, PSs.nox (pss_cons (ps_set (i := 2) sc_Marking_init.nd rfl (.inl rfl) (pe_lst pa_nil)) (pss_cons (ps_set (i := 3) sc_Marking_init.nd rfl (.inl rfl) pe_int) (pss_cons (ps_for PassesOwn.never rfl (pi_enum rfl fx.f_enumerate (pa_cons (pv 1) pa_nil)) (pg_tupK (K := K) (n := 2) rfl rfl (pgs_cons (pg_name (i := 4) sc_Marking_init.nd rfl (.inl rfl)) (pgs_cons (pg_tupK (K := K) (n := 3) rfl rfl (pgs_cons (pg_name (i := 5) sc_Marking_init.nd rfl (.inl rfl)) (pgs_cons (pg_name (i := 6) sc_Marking_init.nd rfl (.inl rfl)) (pgs_cons (pg_name (i := 7) sc_Marking_init.nd rfl (.inl rfl)) pgs_nil)))) pgs_nil))) (pss_cons (ps_if (PW.pt (pw_or (pt_not (pt_val (pe_callB (call_isiK (K := K) rfl) rfl fx.f_isinstance boot_isinstance (pa_cons (pv 5) (pa_cons (pe_bltn (v := .ty "int") rfl fx.f_int boot_int rfl) pa_nil))))) (pw_or (pt_val (pe_callB (call_isiK (K := K) rfl) rfl fx.f_isinstance boot_isinstance (pa_cons (pv 5) (pa_cons (pe_bltn (v := .ty "bool") rfl fx.f_bool boot_bool rfl) pa_nil)))) (pw_or1 (pt_cmpR op_lt (pv 5) pe_int (nomark _)))))) (pss_one ps_never) pss_nil) (pss_cons (ps_expr (pe_bm PySem.F.plainAttrs_list PySem.F.slot_list_append PySem.F.type_list_append mt_append (pv 2) (pa_cons (pe_tup (pa_cons (pv 5) (pa_cons (pv 6) (pa_cons (pe_tupleOfK (K := K) rfl rfl fx.f_tuple (pe_callB (cr_sortTTK (K := K) rfl) rfl fx.f_sorted boot_sorted (pa_cons (pv 7) pa_nil))) pa_nil)))) pa_nil))) (pss_one (ps_aug (i := 3) sc_Marking_init.nd rfl (.inl rfl) (pv 5) ip_add))))) (pss_cons (ps_fld (pv 0) (pe_tupleOfK (K := K) rfl rfl fx.f_tuple (pv 2)) rfl) (pss_one (ps_fld (pv 0) (pv 3) rfl)))))), ?_⟩
  obtain ⟨x, dx, l, ES, rfl, hx, ⟨L0, hl, hL0⟩, ok, hq⟩ := h
  have elen := ok.len
  refine ⟨Nat.zero_le _, fun D nD => ?_⟩
  have hDx : D ≠ x := fun e => by rw [e, hx] at nD; cases nD
  refine ⟨_, rfl, l, L0.map (fun e => V.ref e.1), rfl, .inl (.inl (upd_at hl nD)), ?_⟩
  refine for_it (walk_enum (K := K) (a := l) (xs := L0.map fun e => V.ref e.1)) (fun i σ H' => ∃ (o1 o2 o3 o4 : Option V) (L : List (Addr × Addr)), σ = [some (.ref x), some (.ref l), some (.ref D), some (.int (esum (ES.take i))), o1, o2, o3, o4] ∧ H' D = some (.lst (L.map fun e => V.ref e.1)) ∧ All2 (EnR H') L (ES.take i) ∧ Same H H') ⟨none, none, none, none, [], rfl, upd_same, All2.nil, same_new nD⟩ ?_ ?_ ?_
  · rintro i σ H' hi ⟨o1, o2, o3, o4, L, rfl, _, _, hs⟩
    exact .inl (.inl (hs _ _ hl))
  · rintro i v σ H' H2 hi ⟨o1, o2, o3, o4, L, rfl, hD1, hL, hs⟩ ⟨T, a1, y, rfl, nT, rfl, e1, e2⟩
    cases e1
    have e2 : (L0.map fun e => V.ref e.1)[i]? = some y := e2
    rw [List.getElem?_map] at e2
    obtain ⟨e, he, rfl⟩ := Option.map_eq_some_iff.mp e2
    obtain ⟨r, hr, g1, g2⟩ := hL0.r he
    have hmem := List.mem_of_getElem? hr
    have hil : i < ES.length := (List.getElem?_eq_some_iff.mp hr).1
    have hT : Same H (upd H' T (.tup [.int (i : Nat), .ref e.1])) := same_upd hs (same_free hs nT)
    have hD2 := upd_at (o := .tup [.int (i : Nat), .ref e.1]) hD1 nT
    obtain ⟨p1, p2⟩ := ok.pos r hmem
    obtain ⟨p3, p4⟩ := ok.acc r hmem
    refine ⟨T, _, rfl, .inl (.inl upd_same), rfl, _, _, rfl, _, _, rfl, ⟨e.1, _, rfl, .inl (.inl (hT _ _ g1)), rfl, _, _, rfl, _, _, rfl, _, _, rfl, rfl, rfl, ?_⟩⟩
    refine ⟨_, rfl, _, _, _, _, true, rfl, .ty "int", .base (.int r.1), kit_int_int, true, rfl, iteF ?_⟩
    refine ⟨_, rfl, _, _, _, _, false, rfl, .ty "bool", .base (.int r.1), kit_int_bool, false, rfl, iteF ?_⟩
    refine ⟨_, rfl, _, _, rfl, rfl, _, rfl, ite2 (fun z => ?_) fun z => ?_⟩
    · have z : r.1 < 1 := by simpa using z
      omega
    refine ⟨_, rfl, .inl ⟨rfl, _, .inl (.inl hD2)⟩, _, rfl, _, rfl, _, rfl, e.2, r.2.2, rfl, .inl (.inl (hT _ _ g2)), by omega, fun ys q hp hso nq => ?_⟩
    have hys : ys = r.2.2 := sorted_uniq hso p3 hp
    subst hys
    have hq1 := same_upd (o := .lst (r.2.2.map V.str)) hT (same_free hT nq)
    refine .inl ⟨q, _, rfl, .inl (.inl upd_same), fun q2 nq2 => ?_⟩
    have hq2 := same_upd (o := .tup (r.2.2.map V.str)) hq1 (same_free hq1 nq2)
    refine ⟨by show 3 ≤ sizeLine; decide, fun q3 nq3 => ?_⟩
    have hq3 := same_upd (o := .tup [.int r.1, .str r.2.1, .ref q2]) hq2 (same_free hq2 nq3)
    have up : ∀ {b : Addr} {u : HO}, H' b = some u → (upd (upd (upd (upd H' T (.tup [.int (i : Nat), .ref e.1])) q (.lst (r.2.2.map V.str))) q2 (.tup (r.2.2.map V.str))) q3 (.tup [.int r.1, .str r.2.1, .ref q2])) b = some u := fun h =>
      upd_at (upd_at (upd_at (upd_at h nT) nq) nq2) nq3
    have hD9 := up hD1
    have q2D : q2 ≠ D := fun z => by rw [z, upd_at (upd_at hD1 nT) nq] at nq2; cases nq2
    have q3D : q3 ≠ D := fun z => by rw [z, upd_at (upd_at (upd_at hD1 nT) nq) nq2] at nq3; cases nq3
    have hLl : L.length ≤ 600 := by rw [hL.1, List.length_take]; omega
    refine ⟨D, _, _, rfl, rfl, hD9, small1000 (by rw [List.length_map]; omega), ?_⟩
    refine ⟨_, rfl, _, rfl, _, _, rfl, rfl, some (.int (i : Nat)), some (.int r.1), some (.str r.2.1), some (.ref e.2), L ++ [(q3, q2)], ?_, ?_, ?_, same_upd hq3 nD⟩
    · rw [take_snoc hr, esum_snoc]
      rfl
    · rw [upd_same, List.map_append]
      rfl
    · rw [take_snoc hr]
      exact (hL.mono fun e' x' h => ⟨upd_to (up h.1) (ne_of h.1 hD1 fun z => by cases z), upd_to (up h.2) (ne_of (show H' e'.2 = _ from h.2) hD1 fun z => by cases z)⟩).snoc ⟨upd_to upd_same q3D, upd_to (upd_at upd_same nq3) q2D⟩
  · rintro σ H' ⟨o1, o2, o3, o4, L, rfl, hD1, hL, hs⟩
    rw [List.length_map, hL0.1, List.take_length] at hL
    rw [List.length_map, hL0.1, List.take_length]
    have hx1 := hs _ _ hx
    refine ⟨_, rfl, .inl ⟨D, _, rfl, .inl (.inl hD1), fun te nte => ?_⟩⟩
    have hte : te ≠ x := fun z => by rw [z, hx1] at nte; cases nte
    refine ⟨_, rfl, x, _, dx, _, rfl, upd_at hx1 nte, fx.c_Marking, fx.n_Marking_entries, by decide, ?_⟩
    refine ⟨_, rfl, _, rfl, x, _, dx, _, rfl, upd_same, fx.c_Marking, fx.n_Marking_whole, by show 1 < 1000; decide, ?_⟩
    rw [upd_upd]
    refine hq _ te ?_ upd_same ⟨L, upd_to upd_same hte, ?_⟩
    · exact Sm.at (Sm.of (same_upd hs (same_free hs nte)))
    · exact hL.mono fun e' x' h => ⟨upd_to (upd_at h.1 nte) (ne_of h.1 hx1 fun z => by cases z), upd_to (upd_at h.2 nte) (ne_of (show H' e'.2 = _ from h.2) hx1 fun z => by cases z)⟩
theorem EOk.esum_pos {ES : List Ent} (ok : EOk ES) : 0 < esum ES := by
  have h1 := ok.len
  have : ∀ F : List Ent, (∀ e ∈ F, 1 ≤ e.1) → (F.length : Int) ≤ (F.map Prod.fst).sum := by
    intro W
    induction W with
    | nil => intro _; simp
    | cons e r ih =>
      intro h
      have a := h e (by simp)
      have b := ih fun x hx => h x (by simp [hx])
      rw [List.map_cons, List.sum_cons, List.length_cons]
      omega
  have := this ES fun e he => (ok.pos e he).1
  unfold Km.esum
  omega
theorem EOk.esum_bd {ES : List Ent} (ok : EOk ES) : Bd 1010 (esum ES) := Bd.sums (k := 10) (fun i hi => by
  obtain ⟨e, he, rfl⟩ := List.mem_map.mp hi
  exact (ok.pos e he).2) (by rw [List.length_map]; have := ok.len; omega)
def fitE (R : List (Str × List Str)) (x : Ent) : Bool := fitsR x.2.2 (rdo R x.2.1)
def metE (R : List (Str × List Str)) (ES : List Ent) : Int := ((ES.filter (fitE R)).map Prod.fst).sum
theorem metE_bd {R : List (Str × List Str)} {ES : List Ent} (ok : EOk ES) : Bd 1010 (metE R ES) := Bd.sums (k := 10) (n := 1000) (ns := (ES.filter (fitE R)).map Prod.fst) (fun i hi => by
  obtain ⟨e, he, rfl⟩ := List.mem_map.mp hi
  exact (ok.pos e (List.mem_filter.mp he).1).2) (by rw [List.length_map]; have := ok.len; have := List.length_filter_le (fitE R) ES; omega)
theorem metE_nonneg {R : List (Str × List Str)} {ES : List Ent} (ok : EOk ES) : 0 ≤ metE R ES := by
  have : ∀ l : List Int, (∀ i ∈ l, 0 ≤ i) → 0 ≤ l.sum := by
    intro l
    induction l with
    | nil => intro _; simp
    | cons a r ih =>
      intro h
      have := h a (by simp)
      have := ih fun x hx => h x (by simp [hx])
      rw [List.sum_cons]
      omega
  refine this _ fun i hi => ?_
  obtain ⟨e, he, rfl⟩ := List.mem_map.mp hi
  have := (ok.pos e (List.mem_filter.mp he).1).1
  omega
def spMkTx (K : PySem.W.Frag) : Sp := fun vs H Q _ => ∃ (m : Addr) (ES : List Ent), vs = [.ref m] ∧ MkAt K H m ES ∧ EOk ES ∧ ∀ a ys H', Same H H' → Tt H' a ys → (∀ t, t ∈ ys ↔ t ∈ ES.map fun x => x.2.1) → Q (.ref a) H'
abbrev N_Marking_texts : List PySem.Str := ["self", "weight", "text", "accused"]
theorem sc_Marking_texts : FnScope N_Marking_texts ["self"] (defScope s_Marking_texts) := ⟨rfl, rfl, rfl, by decide +kernel, rfl, by decide +kernel, by decide +kernel⟩
theorem ok_mkTx (fx : Fx K mg) : Met P w K mg base CX0 1 (He.ga K "Marking") "texts" ["self"] (spMkTx K) := by
  refine Met.of (p := ("Marking", some "texts")) (st := s_Marking_texts) fx.c_Marking fx.m_Marking_texts fx.fd_Marking_texts sc_Marking_texts (fun _ _ _ _ _ _ _ us hl => match us, hl with | [_], _ => rfl) (fun vs H Q E h => by obtain ⟨m, ES, rfl, _⟩ := h; rfl) fun f cdv A outer s H vs Q E hr h => ⟨_, PSs.nox (pss_one (ps_ret (pe_tupleOfK (K := K) rfl rfl fx.f_tuple (pe_callB (cr_sortTx rfl) rfl fx.f_sorted boot_sorted (pa_cons (pe_callTy (cr_setTx rfl) rfl fx.f_set boot_set (pa_cons (pe_lc (own := [("weight", 1), ("text", 2), ("accused", 3)]) rfl sc_Marking_texts.nd (pi_tupK (K := K) rfl (pe_fldK (K := K) rfl (pv 0) rfl)) (blkOk_by (N := N_Marking_texts) (sc := defScope s_Marking_texts) (by decide +kernel)) (fun _ _ _ _ _ => (pg_tupK (K := K) (n := 3) rfl rfl (pgs_cons (pg_name (i := 1) sc_Marking_texts.nd rfl (.inl rfl)) (pgs_cons (pg_name (i := 2) sc_Marking_texts.nd rfl (.inl rfl)) (pgs_cons (pg_name (i := 3) sc_Marking_texts.nd rfl (.inl rfl)) pgs_nil))))) (fun _ _ _ _ _ => pts_nil) (fun _ _ _ _ _ => (pv 2))) pa_nil)) pa_nil))))), ?_⟩
  obtain ⟨m, ES, rfl, ⟨dx, te, hm, L, hte, hL⟩, ok, hq⟩ := h
  have elen := ok.len
  refine ⟨_, rfl, m, _, dx, _, _, rfl, hm, fx.c_Marking, fx.n_Marking_entries, rfl, te, rfl, ⟨_, .inl (.inl hte)⟩, fun D nD => ?_⟩
  refine lc_tup (K := K) (a := te) (xs := L.map fun e => V.ref e.1) (fun j H' => H' = upd H D (.lst (((ES.take j).map fun x => x.2.1).map V.str))) rfl ?_ ?_ ?_
  · rintro j H' _ rfl
    exact .inl (.inl (upd_at hte nD))
  · rintro j y H' hy rfl
    rw [List.getElem?_map] at hy
    obtain ⟨e, he, rfl⟩ := Option.map_eq_some_iff.mp hy
    obtain ⟨r, hr, g1, g2⟩ := hL.r he
    have hil : j < ES.length := (List.getElem?_eq_some_iff.mp hr).1
    refine ⟨e.1, _, rfl, .inl (.inl (upd_at g1 nD)), rfl, _, _, rfl, _, _, rfl, _, _, rfl, rfl, rfl, _, rfl, _, upd_same, small1000 (by rw [List.length_map, List.length_map, List.length_take]; omega), ?_⟩
    rw [upd_upd, take_snoc hr]
    simp
  rintro H' rfl
  rw [List.length_map, hL.1, List.take_length]
  have s1 := same_new (o := .lst ((ES.map fun x => x.2.1).map V.str)) nD
  refine ⟨D, ES.map fun x => x.2.1, rfl, .inl (.inl upd_same), by rw [List.length_map]; omega, fun n sx hn nsx => ?_⟩
  have s2 := same_upd (o := SetTx P w sx (inL (ES.map fun x => x.2.1)) n) s1 (same_free s1 nsx)
  rw [List.length_map] at hn
  refine ⟨sx, _, n, rfl, upd_same, by omega, fun ys l5 hso hnd hmem hyl nl5 => ?_⟩
  have s3 := same_upd (o := .lst (ys.map V.str)) s2 (same_free s2 nl5)
  refine .inl ⟨l5, _, rfl, .inl (.inl upd_same), fun q nq => ?_⟩
  refine hq q ys _ (same_upd s3 (same_free s3 nq)) upd_same fun t => ?_
  rw [hmem, inL]
  simp
def spCheck (K : PySem.W.Frag) : Sp := fun vs H Q _ => ∃ (c m : Addr) (R : List (Str × List Str)) (ES : List Ent), vs = [.ref c, .ref m] ∧ ChAt K H c R ∧ R.length < 64 ∧ MkAt K H m ES ∧ EOk ES ∧ (∀ x ∈ ES, x.2.1 ∈ R.map Prod.fst) ∧ ∀ H', Same H H' → Q .non H'
abbrev N_check_written : List PySem.Str := ["changes", "marking", "texts", "text"]
theorem sc_check_written : FnScope N_check_written ["changes", "marking"] (defScope s_check_written) := ⟨rfl, rfl, rfl, by decide +kernel, rfl, by decide +kernel, by decide +kernel⟩
theorem ok_check (fx : Fx K mg) : Cal P w K mg base CX0 2 "_check_written" ["changes", "marking"] (spCheck K) := by
  have met_Changes_texts : Met P w K mg base CX0 1 (He.ga K "Changes") "texts" ["self"] (spChTx K) := ok_chTx fx
  have met_Marking_texts : Met P w K mg base CX0 1 (He.ga K "Marking") "texts" ["self"] (spMkTx K) := ok_mkTx fx
  refine Cal.of (st := s_check_written) fx.g_check_written fx.fd_check_written sc_check_written (fun _ _ _ _ _ _ _ us hl => match us, hl with | [_, _], _ => rfl) (fun vs H Q E h => by obtain ⟨c, m, R, ES, rfl, _⟩ := h; rfl) fun f cdv A outer s H vs Q E hr h => ⟨_, PSs.nox (pss_cons (ps_set (i := 2) sc_check_written.nd rfl (.inl rfl) (pe_mt0 met_Changes_texts hr (by decide) pass0 (pv 0))) (pss_one (ps_for PassesOwn.never rfl (pi_tupK (K := K) rfl (pe_mt0 met_Marking_texts hr (by decide) pass0 (pv 1))) (pg_name (i := 3) sc_check_written.nd rfl (.inl rfl)) (pss_one (ps_if (pt_cmpR (op_notIn_seqK (K := K) rfl) (pv 3) (pv 2) rfl) (pss_one ps_never) pss_nil))))), ?_⟩
  obtain ⟨c, m, R, ES, rfl, hc, hl, hm, ok, sub, hq⟩ := h
  have hc2 := hc
  obtain ⟨dx, d, e1, _⟩ := hc2
  refine ⟨_, rfl, c, dx, _, rfl, e1, rfl, c, R, rfl, hc, hl, fun a ys H1 m1 ha hp => ?_⟩
  have hm1 := hm.same m1
  have hm2 := hm1
  obtain ⟨mx, te, e2, _⟩ := hm2
  refine ⟨_, rfl, m, mx, _, rfl, e2, rfl, m, ES, rfl, hm1, ok, fun b zs H2 m2 hb hz => ?_⟩
  refine ⟨b, rfl, ⟨_, .inl (.inl hb)⟩, for_tup (xs := zs.map V.str) (fun i σ H' => H' = H2 ∧ ∃ o, σ = [some (.ref c), some (.ref m), some (.ref a), o]) ⟨rfl, none, rfl⟩ ?_ ?_ ?_⟩
  · rintro i σ H' _ ⟨rfl, _⟩
    exact .inl (.inl hb)
  · rintro i y σ H' hy ⟨rfl, o, rfl⟩
    obtain ⟨t, ht, rfl⟩ := lt_map hy
    refine ⟨_, rfl, _, rfl, a, _, rfl, .inr (.inl (.inl (m2 _ _ ha))), rfl, flat_strs ys, _, rfl, ?_⟩
    rw [if_pos rfl, inV_str]
    have hin : t ∈ ys := by
      obtain ⟨x, hx, e⟩ := List.mem_map.mp ((hz t).mp (List.mem_of_getElem? ht))
      rw [hp.mem_iff, ← e]
      exact sub x hx
    rw [decide_eq_true hin]
    exact iteF ⟨rfl, _, rfl⟩
  · rintro σ H' ⟨rfl, _⟩
    exact hq _ (m1.trans m2)
def spFound (K : PySem.W.Frag) : Sp := fun vs H Q _ => ∃ (c m : Addr) (R : List (Str × List Str)) (ES : List Ent), vs = [.ref c, .ref m] ∧ ChAt K H c R ∧ R.length < 64 ∧ (R.map Prod.fst).Nodup ∧ (∀ r ∈ R, r.1 ∈ r.2) ∧ MkAt K H m ES ∧ EOk ES ∧ (∀ x ∈ ES, x.2.1 ∈ R.map Prod.fst) ∧
  ∀ x H', Same H H' → ShareAt K H' x ((metE R ES).toNat / Nat.gcd (metE R ES).toNat (esum ES).toNat) ((esum ES).toNat / Nat.gcd (metE R ES).toNat (esum ES).toNat) → Q (.ref x) H'
abbrev N_found_share : List PySem.Str := ["changes", "marking", "weights", "weight", "text", "accused"]
theorem sc_found_share : FnScope N_found_share ["changes", "marking"] (defScope s_found_share) := ⟨rfl, rfl, rfl, by decide +kernel, rfl, by decide +kernel, by decide +kernel⟩
theorem ok_found (fx : Fx K mg) : Cal P w K mg base CX0 4 "found_share" ["changes", "marking"] (spFound K) := by
  have cal_accused_by : Cal P w K mg base CX0 1 "accused_by" ["accused", "readable"] (spAcc K) := ok_acc fx
  have cal_check_written : Cal P w K mg base CX0 2 "_check_written" ["changes", "marking"] (spCheck K) := ok_check fx
  have mak_Share : Mak P w K mg base CX0 2 "Share" (He.ga K "Share") ["self", "over", "under"] (spShI K) := ok_shI fx
  have met_Changes_of : Met P w K mg base CX0 1 (He.ga K "Changes") "of" ["self", "text"] (spOf K) := ok_of fx
  refine Cal.of (st := s_found_share) fx.g_found_share fx.fd_found_share sc_found_share (fun _ _ _ _ _ _ _ us hl => match us, hl with | [_, _], _ => rfl) (fun vs H Q E h => by obtain ⟨c, m, R, ES, rfl, _⟩ := h; rfl) fun f cdv A outer s H vs Q E hr h => ⟨_, PSs.nox (pss_cons (ps_expr (pe_c cal_check_written hr (by decide) rfl pass0 (pa_cons (pv 0) (pa_cons (pv 1) pa_nil)))) (pss_cons (ps_setLc (i := 2) (own := [("weight", 3), ("text", 4), ("accused", 5)]) rfl sc_found_share.nd rfl rfl (sw_true rfl rfl rfl (by decide +kernel)) (pi_tupK (K := K) rfl (pe_fldK (K := K) rfl (pv 1) rfl)) (blkOk_by (N := N_found_share) (sc := defScope s_found_share) (by decide +kernel)) (fun _ _ _ _ _ => (pg_tupK (K := K) (n := 3) rfl rfl (pgs_cons (pg_name (i := 3) sc_found_share.nd rfl (.inl rfl)) (pgs_cons (pg_name (i := 4) sc_found_share.nd rfl (.inl rfl)) (pgs_cons (pg_name (i := 5) sc_found_share.nd rfl (.inl rfl)) pgs_nil))))) (fun _ _ _ _ _ => (pts_one (pt_val (pe_c cal_accused_by hr (by decide) rfl pass0 (pa_cons (pv 5) (pa_cons (pe_mt met_Changes_of hr (by decide) pass0 (pv 0) (pa_cons (pv 4) pa_nil)) pa_nil)))))) (fun _ _ _ _ _ => (pv 3))) (pss_one (ps_ret (pe_mk mak_Share hr (by decide) rfl pass0 (pa_cons (pe_callB (cr_sumK (K := K) rfl rfl) rfl fx.f_sum boot_sum (pa_cons (pv 2) pa_nil)) (pa_cons (pe_fldK (K := K) rfl (pv 1) rfl) pa_nil))))))), ?_⟩
  obtain ⟨c, m, R, ES, rfl, hc, hl, rnd, rin, hm, ok, sub, hq⟩ := h
  have elen := ok.len
  refine ⟨_, rfl, _, rfl, c, m, R, ES, rfl, hc, hl, hm, ok, sub, fun H1 m1 => ?_⟩
  obtain ⟨dx, te, hm1, L, hte, hL⟩ := hm.same m1
  have hc1 := hc.same m1
  refine ⟨_, rfl, m, _, dx, _, _, rfl, hm1, fx.c_Marking, fx.n_Marking_entries, rfl, te, rfl, ⟨_, .inl (.inl hte)⟩, fun D nD => ?_⟩
  refine lc_tup (K := K) (a := te) (xs := L.map fun e => V.ref e.1) (fun j H' => H' D = some (.lst ((((ES.take j).filter (fitE R)).map Prod.fst).map V.int)) ∧ Same H1 H') ⟨upd_same, same_new nD⟩ ?_ ?_ ?_
  · rintro j H' _ ⟨_, s⟩
    exact .inl (.inl (s _ _ hte))
  · rintro j y H' hy ⟨hD, s⟩
    rw [List.getElem?_map] at hy
    obtain ⟨e, he, rfl⟩ := Option.map_eq_some_iff.mp hy
    obtain ⟨x, hx, g1, g2⟩ := hL.r he
    have hil : j < ES.length := (List.getElem?_eq_some_iff.mp hx).1
    obtain ⟨r, hr', er⟩ := List.mem_map.mp (sub x (List.mem_of_getElem? hx))
    obtain ⟨xn, xt, xa⟩ := x
    dsimp only at er g1 g2
    subst er
    have hcs := hc1.same s
    have hcs2 := hcs
    obtain ⟨cx, d, e1, _⟩ := hcs2
    refine ⟨e.1, _, rfl, .inl (.inl (s _ _ g1)), rfl, _, _, rfl, _, _, rfl, _, _, rfl, rfl, rfl, _, rfl, ?_⟩
    refine ⟨_, rfl, c, cx, _, rfl, e1, rfl, _, rfl, c, r, R, rfl, hcs, rnd, hr', fun q ⟨ys, k1, k2, k3, k4, k5⟩ => ⟨e.2, q, xa, ys, rfl, .inr (.inl (.inl (s _ _ g2))), k1, by omega, fun H6 m6 => ⟨_, rfl, ?_⟩⟩⟩
    have e1 : fitsR xa ys = fitE R (xn, r.1, xa) := by
      show _ = fitsR xa (rdo R r.1)
      rw [rdo_of rnd hr']
      refine fitsR_congr (fun _ => Iff.rfl) fun t => ?_
      rw [k4]
      constructor
      · rintro (rfl | h)
        · exact rin r hr'
        · exact h
      · exact .inr
    rw [e1]
    have hfl : (List.filter (fitE R) (ES.take j)).length ≤ 600 := Nat.le_trans (List.length_filter_le _ _) (by rw [List.length_take]; omega)
    refine ite2 (fun z => ⟨_, rfl, _, m6 _ _ hD, small1000 (by rw [List.length_map, List.length_map]; omega), ?_, same_upd (s.trans m6) nD⟩) fun z => ⟨?_, s.trans m6⟩
    · rw [upd_same, take_snoc hx, List.filter_append, List.filter_cons, if_pos z]
      simp
    · rw [m6 _ _ hD, take_snoc hx, List.filter_append, List.filter_cons, if_neg z]
      simp
  rintro H' ⟨hD, s⟩
  rw [List.length_map, hL.1, List.take_length] at hD
  have p1 := ok.esum_pos
  have p2 := metE_nonneg (R := R) ok
  have b1 := ok.esum_bd
  have b2 := metE_bd (R := R) ok
  have e1 : (metE R ES) = ((metE R ES).toNat : Int) := (Int.toNat_of_nonneg p2).symm
  have e2 : (esum ES) = ((esum ES).toNat : Int) := (Int.toNat_of_nonneg (by omega)).symm
  rw [e1] at b2
  rw [e2] at b1
  refine ⟨_, rfl, D, _, rfl, .inl (.inl hD), _, rfl, m, _, dx, _, _, rfl, s _ _ hm1, fx.c_Marking, fx.n_Marking_whole, rfl, fun x z nx nz ne => ⟨x, z, (metE R ES).toNat, (esum ES).toNat, ?_, by omega, b2.mono (by decide), b1.mono (by decide), upd_same, rfl, ?_⟩⟩
  · show [V.ref x, .int (metE R ES), .int (esum ES)] = _
    rw [← e1, ← e2]
  obtain ⟨s2, hx⟩ := share_new (K := K) (metE R ES).toNat (esum ES).toNat nx nz
  exact hq x _ (m1.trans (s.trans s2)) hx
end Km
end

section
set_option Elab.async false
set_option linter.all false
set_option maxRecDepth 100000
set_option maxHeartbeats 4000000
set_option pp.maxSteps 700
/-! Flow: rows of numbers, dicts by numbers; the making. -/
namespace Km
open PySem PySem.Spec PyProof.Rows L2
/-! ### rows -/
def vec (n : Nat) (g : Nat → V) : List V := (List.range n).map g
abbrev vI (n : Nat) (g : Nat → Int) : List V := vec n fun i => V.int (g i)
abbrev vB (n : Nat) (g : Nat → Bool) : List V := vec n fun i => V.bl (g i)
theorem vec_len (n : Nat) (g : Nat → V) : (vec n g).length = n := by simp [vec]
theorem vec_at {n i : Nat} (g : Nat → V) (h : i < n) : (vec n g)[i]? = some (g i) := by
  unfold vec
  rw [List.getElem?_map, List.getElem?_range h]
  rfl
theorem vec_inv {n i : Nat} {g : Nat → V} {y : V} (h : (vec n g)[i]? = some y) : i < n ∧ y = g i := by
  have hi : i < n := by
    have := (List.getElem?_eq_some_iff.mp h).1
    rwa [vec_len] at this
  rw [vec_at g hi] at h
  cases h
  exact ⟨hi, rfl⟩
theorem ixN_nat {n i : Nat} (h : i < n) : ixN n (i : Int) = some i := by
  unfold ixN
  rw [if_pos (by omega), if_pos (by omega)]
  rfl
theorem atI_vec {n i : Nat} (g : Nat → V) (h : i < n) : atI (vec n g) (i : Nat) = some (g i) := by
  unfold atI
  rw [vec_len, ixN_nat h]
  exact vec_at g h
theorem vec_congr {n : Nat} {g h : Nat → V} (e : ∀ i, i < n → g i = h i) : vec n g = vec n h := by
  unfold vec
  exact List.map_congr_left fun i hi => e i (List.mem_range.mp hi)
theorem vec_set {n i : Nat} (g : Nat → V) (v : V) : (vec n g).set i v = vec n fun j => if j = i then v else g j := by
  apply List.ext_getElem?
  intro j
  rw [List.getElem?_set]
  by_cases hj : j < n
  · rw [vec_at _ hj, vec_at _ hj, vec_len]
    by_cases e : i = j
    · subst e
      simp [hj]
    · rw [if_neg e, if_neg (fun z => e z.symm)]
  · have h1 : ∀ g : Nat → V, (vec n g)[j]? = none := fun g => List.getElem?_eq_none (by rw [vec_len]; omega)
    rw [h1, h1, vec_len]
    by_cases e : i = j
    · rw [if_pos e, if_neg (by omega)]
    · rw [if_neg e]
theorem vec_snoc (n : Nat) (g : Nat → V) : vec n g ++ [g n] = vec (n + 1) g := by
  unfold vec
  rw [List.range_succ, List.map_append]
  rfl
theorem vec_up {n i : Nat} (g : Nat → Int) (d : Int) : (vI n g).set i (.int (g i + d)) = vI n (Mt.up1 g i d) := by
  rw [vec_set]
  refine vec_congr fun j _ => ?_
  unfold Mt.up1
  by_cases e : j = i
  · rw [if_pos e, if_pos e, e]
  · rw [if_neg e, if_neg e]
/-! ### dicts by numbers -/
def ikv (L : List (Nat × Int)) : List (Key × V) := L.map fun e => (Sum.inl (e.1 : Int), V.int e.2)
theorem ikv_len (L : List (Nat × Int)) : (ikv L).length = L.length := List.length_map ..
theorem ikv_get (t : Nat) : ∀ L : List (Nat × Int), valV (ikv L) (.inl (t : Int)) = (L.lookup t).map V.int
  | [] => rfl
  | (u, x) :: r => by
    show valV ((Sum.inl (u : Int), V.int x) :: ikv r) (.inl (t : Int)) = _
    by_cases e : u = t
    · subst e
      rw [valV_pos (p := ((Sum.inl (u : Int) : Key), V.int x)) rfl]
      simp [List.lookup]
    · have e2 : (t == u) = false := by simpa using (Ne.symm e)
      rw [valV_neg (p := ((Sum.inl (u : Int) : Key), V.int x)) (fun z => e (by have := Sum.inl.inj z; omega)), ikv_get t r]
      simp [List.lookup, e2]
theorem nl_none {t : Nat} : ∀ {L : List (Nat × Int)}, ¬ t ∈ L.map Prod.fst → L.lookup t = none
  | [], _ => rfl
  | (u, x) :: r, h => by
    have e : ¬ t = u := fun z => h (by simp [z])
    have e2 : (t == u) = false := by simpa using e
    show (match t == u with | true => some x | false => r.lookup t) = none
    rw [e2]
    exact nl_none fun m => h (List.mem_cons_of_mem _ m)
theorem nl_some {t : Nat} {x : Int} : ∀ {L : List (Nat × Int)}, (L.map Prod.fst).Nodup → (t, x) ∈ L → L.lookup t = some x
  | [], _, h => by cases h
  | (u, y) :: r, hn, h => by
    obtain ⟨h1, h2⟩ := List.nodup_cons.mp (show (u :: r.map Prod.fst).Nodup from hn)
    rcases List.mem_cons.mp h with e | h
    · injection e with e1 e2
      subst e1 e2
      simp [List.lookup]
    · have e : ¬ t = u := fun z => h1 (by rw [← z]; exact List.mem_map.mpr ⟨_, h, rfl⟩)
      have e2 : (t == u) = false := by simpa using e
      show (match t == u with | true => some y | false => r.lookup t) = some x
      rw [e2]
      exact nl_some h2 h
theorem ikv_none {t : Nat} {L : List (Nat × Int)} (h : ¬ t ∈ L.map Prod.fst) : valV (ikv L) (.inl (t : Int)) = none := by rw [ikv_get, nl_none h] <;> rfl
theorem ikv_some {t : Nat} {x : Int} {L : List (Nat × Int)} (hn : (L.map Prod.fst).Nodup) (h : (t, x) ∈ L) : valV (ikv L) (.inl (t : Int)) = some (.int x) := by rw [ikv_get, nl_some hn h] <;> rfl
theorem ikv_put {t : Nat} {L : List (Nat × Int)} (x : Int) (h : ¬ t ∈ L.map Prod.fst) : putK (ikv L) (.inl (t : Int)) (.int x) = ikv (L ++ [(t, x)]) := by
  rw [putK_new _ (ikv_none h)]
  simp [ikv]
theorem ikv_keys (L : List (Nat × Int)) : ((ikv L).map fun kv => kV kv.1) = (L.map Prod.fst).map fun n : Nat => V.int n := by
  simp only [ikv, List.map_map]
  rfl
/-! ### the flow on the heap -/
structure FlA where
  dx : Addr
  fa : Addr
  sa : Addr
  ra : Addr
  ta : Addr
  fr : List Addr
  tr : List Addr
def Rws (H : Hp) (rs : List Addr) (n m : Nat) (g : Nat → Nat → V) : Prop := rs.length = n ∧ ∀ x a, rs[x]? = some a → H a = some (.lst (vec m (g x)))
theorem Rws.same {H H' : Hp} {rs : List Addr} {n m : Nat} {g : Nat → Nat → V} (h : Rws H rs n m g) (s : Same H H') : Rws H' rs n m g := ⟨h.1, fun x a e => s _ _ (h.2 x a e)⟩
theorem Rws.get {H : Hp} {rs : List Addr} {n m x : Nat} {g : Nat → Nat → V} (h : Rws H rs n m g) (hx : x < n) : ∃ a, rs[x]? = some a ∧ a ∈ rs ∧ H a = some (.lst (vec m (g x))) := by
  have hx : x < rs.length := by rw [h.1]; exact hx
  exact ⟨rs[x], List.getElem?_eq_getElem hx, List.getElem_mem hx, h.2 x _ (List.getElem?_eq_getElem hx)⟩
theorem atI_rows {rs : List Addr} {x : Nat} {a : Addr} (h : rs[x]? = some a) : atI (rs.map V.ref) (x : Nat) = some (.ref a) := by
  have hx := (List.getElem?_eq_some_iff.mp h).1
  unfold atI
  rw [List.length_map, ixN_nat hx]
  show (rs.map V.ref)[x]? = _
  rw [List.getElem?_map, h] <;> rfl
structure FlA.Ap (A : FlA) : Prop where
  sr : A.sa ≠ A.ra
  t : ∀ t ∈ A.tr, t ≠ A.sa ∧ t ≠ A.ra ∧ t ≠ A.fa ∧ t ≠ A.ta ∧ ¬ t ∈ A.fr
  f : ∀ t ∈ A.fr, t ≠ A.sa ∧ t ≠ A.ra
  o : A.fa ≠ A.sa ∧ A.fa ≠ A.ra ∧ A.ta ≠ A.sa ∧ A.ta ≠ A.ra
  nd : A.tr.Nodup
variable {P : Program} {w : World} {K : PySem.W.Frag} {mg : Str → Option Value} {base : Heap}
/-- what stands below the instance -/
structure FwB (H : Hp) (A : FlA) (N M : Nat) (fits : Nat → Nat → Bool) (f : Nat → Nat → Int) (sup room : Nat → Int) : Prop where
  hf : H A.fa = some (.lst (A.fr.map V.ref))
  fr : Rws H A.fr N M fun x i => .bl (fits x i)
  hs : H A.sa = some (.lst (vI N sup))
  hr : H A.ra = some (.lst (vI M room))
  ht : H A.ta = some (.lst (A.tr.map V.ref))
  tr : Rws H A.tr N M fun x i => .int (f x i)
def flF (A : FlA) (qa la : Addr) : List (Str × V) := [("fits", .ref A.fa), ("supply", .ref A.sa), ("room", .ref A.ra), ("sent", .ref A.ta), ("reached", .ref qa), ("filled", .ref la)]
def FwI (K : PySem.W.Frag) (H : Hp) (x : Addr) (A : FlA) (qa la : Addr) : Prop := H x = some (.ins (He.ga K "Flow") A.dx (flF A qa la))
section
variable {H H' : Hp} {A : FlA} {N M : Nat} {fits : Nat → Nat → Bool} {f : Nat → Nat → Int} {sup room : Nat → Int} {x : Addr}
theorem FwB.same (h : FwB H A N M fits f sup room) (s : Same H H') : FwB H' A N M fits f sup room :=
  ⟨s _ _ h.hf, h.fr.same s, s _ _ h.hs, s _ _ h.hr, s _ _ h.ht, h.tr.same s⟩
/-- all lists stay: then all of it stays -/
theorem FwB.keep (h : FwB H A N M fits f sup room) (s : ∀ b xs, H b = some (.lst xs) → H' b = some (.lst xs)) : FwB H' A N M fits f sup room :=
  ⟨s _ _ h.hf, ⟨h.fr.1, fun x a e => s _ _ (h.fr.2 x a e)⟩, s _ _ h.hs, s _ _ h.hr, s _ _ h.ht, ⟨h.tr.1, fun x a e => s _ _ (h.tr.2 x a e)⟩⟩
theorem FwB.sent (h : FwB H A N M fits f sup room) (ap : A.Ap) {y i : Nat} {a : Addr} (hy : A.tr[y]? = some a) (d : Int) :
    FwB (upd H a (.lst ((vI M (f y)).set i (.int (f y i + d))))) A N M fits (Mt.bump f y i d) sup room := by
  have ha := List.mem_of_getElem? hy
  obtain ⟨t1, t2, t3, t4, t5⟩ := ap.t a ha
  refine ⟨upd_to h.hf (Ne.symm t3), ⟨h.fr.1, fun z b e => upd_to (h.fr.2 z b e) fun q => t5 (q ▸ List.mem_of_getElem? e)⟩, upd_to h.hs (Ne.symm t1), upd_to h.hr (Ne.symm t2), upd_to h.ht (Ne.symm t4), ⟨h.tr.1, fun z b e => ?_⟩⟩
  by_cases q : z = y
  · subst q
    rw [hy] at e
    cases e
    rw [upd_same, vec_up]
    refine congrArg some (congrArg HO.lst (vec_congr fun j _ => ?_))
    show V.int (Mt.up1 (f z) i d j) = V.int (Mt.bump f z i d z j)
    unfold Mt.bump Mt.up1
    rw [if_pos rfl]
  · have hne : b ≠ a := fun z2 => by
      subst z2
      exact q (((List.getElem?_inj (List.getElem?_eq_some_iff.mp e).1 ap.nd).mp (by rw [e, hy])))
    rw [upd_to (h.tr.2 z b e) hne]
    refine congrArg some (congrArg HO.lst (vec_congr fun j _ => ?_))
    show V.int (f z j) = V.int (Mt.bump f y i d z j)
    unfold Mt.bump
    rw [if_neg q]
theorem FwB.supl (h : FwB H A N M fits f sup room) (ap : A.Ap) (y : Nat) (d : Int) : FwB (upd H A.sa (.lst ((vI N sup).set y (.int (sup y + d))))) A N M fits f (Mt.up1 sup y d) room := by
  refine ⟨upd_to h.hf ap.o.1, ⟨h.fr.1, fun z b e => upd_to (h.fr.2 z b e) (ap.f b (List.mem_of_getElem? e)).1⟩, by rw [upd_same, vec_up], upd_to h.hr (Ne.symm ap.sr), upd_to h.ht ap.o.2.2.1, ⟨h.tr.1, fun z b e => upd_to (h.tr.2 z b e) (ap.t b (List.mem_of_getElem? e)).1⟩⟩
theorem FwB.roo (h : FwB H A N M fits f sup room) (ap : A.Ap) (y : Nat) (d : Int) : FwB (upd H A.ra (.lst ((vI M room).set y (.int (room y + d))))) A N M fits f sup (Mt.up1 room y d) := by
  refine ⟨upd_to h.hf ap.o.2.1, ⟨h.fr.1, fun z b e => upd_to (h.fr.2 z b e) (ap.f b (List.mem_of_getElem? e)).2⟩, upd_to h.hs ap.sr, by rw [upd_same, vec_up], upd_to h.ht ap.o.2.2.2, ⟨h.tr.1, fun z b e => upd_to (h.tr.2 z b e) (ap.t b (List.mem_of_getElem? e)).2.1⟩⟩
end
def zeroF : Nat → Nat → Int := fun _ _ => 0
def spFlI (K : PySem.W.Frag) : Sp := fun vs H Q _ => ∃ (x dx fa sa ra : Addr) (fr : List Addr) (N M : Nat) (fits : Nat → Nat → Bool) (sup room : Nat → Int), vs = [.ref x, .ref fa, .ref sa, .ref ra] ∧ H x = some (.ins (He.ga K "Flow") dx []) ∧
  H fa = some (.lst (fr.map V.ref)) ∧ Rws H fr N M (fun x i => .bl (fits x i)) ∧ H sa = some (.lst (vI N sup)) ∧ H ra = some (.lst (vI M room)) ∧ sa ≠ ra ∧ fa ≠ sa ∧ fa ≠ ra ∧ (∀ t ∈ fr, t ≠ sa ∧ t ≠ ra) ∧ N ≤ 100 ∧ M ≤ 100 ∧
  ∀ H' A qa la, Sm x H H' → FwI K H' x A qa la → FwB H' A N M fits zeroF sup room → A.Ap → A.sa = sa → A.ra = ra → (∀ t ∈ A.tr, H t = none) → Q .non H'
abbrev N_Flow_init : List PySem.Str := ["self", "fits", "supply", "room", "_"]
theorem sc_Flow_init : FnScope N_Flow_init ["self", "fits", "supply", "room"] (defScope s_Flow_init) := ⟨rfl, rfl, rfl, by decide +kernel, rfl, by decide +kernel, by decide +kernel⟩
theorem ok_flI (fx : Fx K mg) : Mak P w K mg base CX0 1 "Flow" (He.ga K "Flow") ["self", "fits", "supply", "room"] (spFlI K) := by
  refine Mak.of (p := ("Flow", some "__init__")) (st := s_Flow_init) fx.g_Flow fx.k_Flow fx.fd_Flow_init sc_Flow_init (fun _ _ _ _ _ _ _ us hl => match us, hl with | [_, _, _, _], _ => rfl) (fun vs H Q E h => by obtain ⟨x, dx, fa, sa, ra, fr, N, M, fits, sup, room, rfl, _⟩ := h; rfl) fun f cdv A outer s H vs Q E hr h => ⟨_, PSs.nox (pss_cons (ps_fld (pv 0) (pv 1) rfl) (pss_cons (ps_fld (pv 0) (pv 2) rfl) (pss_cons (ps_fld (pv 0) (pv 3) rfl) (pss_cons (ps_fld (pv 0) (pe_lc (own := [("_", 4)]) rfl sc_Flow_init.nd (pi_listK (K := K) rfl (pv 2)) (blkOk_by (N := N_Flow_init) (sc := defScope s_Flow_init) (by decide +kernel)) (fun _ _ _ _ _ => (pg_name (i := 4) sc_Flow_init.nd rfl (.inl rfl))) (fun _ _ _ _ _ => pts_nil) (fun _ _ _ _ _ => (pe_lc (own := [("_", 4)]) rfl sc_Flow_init.nd (pi_listK (K := K) rfl (pv 3)) (blkOk_rel (N := N_Flow_init) (sc0 := defScope s_Flow_init) (by decide +kernel)) (fun _ _ _ _ _ => (pg_name (i := 4) sc_Flow_init.nd rfl (.inl rfl))) (fun _ _ _ _ _ => pts_nil) (fun _ _ _ _ _ => pe_int)))) rfl) (pss_cons (ps_fld (pv 0) pe_dnewK rfl) (pss_one (ps_fld (pv 0) pe_dnewK rfl))))))), ?_⟩
  obtain ⟨x, dx, fa, sa, ra, fr, N, M, fits, sup, room, rfl, hx, hf, hfr, hs, hr1, n1, n2, n3, n4, hN, hM, hq⟩ := h
  have cf := fx.c_Flow
  refine ⟨_, rfl, _, rfl, x, _, dx, _, rfl, hx, cf, fx.n_Flow_fits, by decide, ?_⟩
  refine ⟨_, rfl, _, rfl, x, _, dx, _, rfl, upd_same, cf, fx.n_Flow_supply, by show 1 < 1000; decide, ?_⟩
  rw [upd_upd]
  refine ⟨_, rfl, _, rfl, x, _, dx, _, rfl, upd_same, cf, fx.n_Flow_room, by show 2 < 1000; decide, ?_⟩
  rw [upd_upd]
  have sx : Sm x H (upd H x (.ins (He.ga K "Flow") dx [("fits", .ref fa), ("supply", .ref sa), ("room", .ref ra)])) := Sm.at (Sm.refl _ _)
  have nx : ∀ {b : Addr} {xs : List V}, H b = some (.lst xs) → upd H x (.ins (He.ga K "Flow") dx [("fits", .ref fa), ("supply", .ref sa), ("room", .ref ra)]) b = some (.lst xs) := fun h => sx _ _ (ne_of h hx fun z => by cases z) h
  have hx1 : upd H x (.ins (He.ga K "Flow") dx [("fits", .ref fa), ("supply", .ref sa), ("room", .ref ra)]) x = some (.ins (He.ga K "Flow") dx [("fits", .ref fa), ("supply", .ref sa), ("room", .ref ra)]) := upd_same
  have hf := nx hf
  have hs := nx hs
  have hr1 := nx hr1
  have hfr : Rws _ fr N M (fun x i => .bl (fits x i)) := ⟨hfr.1, fun y a e => nx (hfr.2 y a e)⟩
  have free : ∀ {q : Addr}, upd H x (.ins (He.ga K "Flow") dx [("fits", .ref fa), ("supply", .ref sa), ("room", .ref ra)]) q = none → H q = none := fun {q} h => by
    by_cases e : q = x
    · rw [e, upd_same] at h
      cases h
    · rwa [upd_ne e] at h
  rw [show putF ("room" : Str) (V.ref ra) (putF ("supply" : Str) (V.ref sa) (putF ("fits" : Str) (V.ref fa) [])) = ([(("fits" : Str), V.ref fa), (("supply" : Str), V.ref sa), (("room" : Str), V.ref ra)] : List (Str × V)) from rfl]
  generalize upd H x (.ins (He.ga K "Flow") dx [("fits", .ref fa), ("supply", .ref sa), ("room", .ref ra)]) = H1 at *
  refine ⟨_, rfl, sa, rfl, ⟨_, .inl (.inl hs)⟩, fun D nD => ?_⟩
  refine lc_list (xs := vI N sup) (fun j H' => ∃ tr : List Addr, H' D = some (.lst (tr.map V.ref)) ∧ Rws H' tr j M (fun x i => .int (zeroF x i)) ∧ tr.Nodup ∧ (∀ t ∈ tr, H1 t = none ∧ t ≠ D) ∧ Same H1 H')
    ⟨[], upd_same, ⟨rfl, fun x a e => by simp at e⟩, List.nodup_nil, fun t h => (by cases h), same_new nD⟩ ?_ ?_ ?_
  · rintro j H' _ ⟨tr, _, _, _, _, s⟩
    exact .inl (.inl (s _ _ hs))
  · rintro j y H2 hy ⟨tr, hD, htr, hnd, hfree, s⟩
    obtain ⟨hj, rfl⟩ := vec_inv hy
    refine ⟨rfl, _, rfl, ra, rfl, ⟨_, .inl (.inl (s _ _ hr1))⟩, fun D2 nD2 => ?_⟩
    have hD2 := ne_of_none hD nD2
    refine lc_list (xs := vI M room) (fun k H' => H' = upd H2 D2 (.lst (vI k (zeroF j)))) rfl ?_ ?_ ?_
    · rintro k H' _ rfl
      exact .inl (.inl (upd_at (s _ _ hr1) nD2))
    · rintro k y H' hy rfl
      obtain ⟨hk, rfl⟩ := vec_inv hy
      refine ⟨rfl, _, upd_same, small1000 (by rw [vec_len]; omega), ?_⟩
      rw [upd_upd]
      exact congrArg (fun l => upd H2 D2 (HO.lst l)) (vec_snoc k fun i => V.int (zeroF j i))
    rintro H' rfl
    rw [vec_len]
    have hDD := upd_at (o := .lst (vI M (zeroF j))) hD nD2
    refine ⟨_, hDD, small1000 (by rw [List.length_map, htr.1]; omega), tr ++ [D2], ?_, ⟨by rw [List.length_append, htr.1]; rfl, fun z a e => ?_⟩, ?_, ?_, ?_⟩
    · rw [upd_same, List.map_append]
      rfl
    · rcases Nat.lt_trichotomy z tr.length with c | c | c
      · rw [List.getElem?_append_left c] at e
        have h1 := htr.2 z a e
        have aD : a ≠ D := (hfree _ (List.mem_of_getElem? e)).2
        exact upd_to (upd_at h1 nD2) aD
      · rw [List.getElem?_append_right (by omega), show z - tr.length = 0 by omega] at e
        cases e
        have : z = j := by rw [c, htr.1]
        subst this
        exact upd_to upd_same (Ne.symm hD2)
      · rw [List.getElem?_eq_none (by simp; omega)] at e
        cases e
    · refine List.nodup_append.mpr ⟨hnd, by simp, fun a ha b hb e => ?_⟩
      rw [List.mem_singleton.mp hb] at e
      subst e
      obtain ⟨z, hz, e2⟩ := List.mem_iff_getElem.mp ha
      have : H2 a = _ := htr.2 z a (by rw [List.getElem?_eq_getElem hz, e2])
      rw [nD2] at this
      cases this
    · intro t ht
      rcases List.mem_append.mp ht with ht | ht
      · exact hfree t ht
      · rw [List.mem_singleton.mp ht]
        exact ⟨same_free s nD2, Ne.symm hD2⟩
    · exact (same_upd (same_upd s (same_free s nD2)) nD)
  rintro H2 ⟨tr, hD, htr, hnd, hfree, s⟩
  rw [vec_len] at htr
  have hx2 := s _ _ hx1
  refine ⟨_, rfl, x, _, dx, _, rfl, hx2, cf, fx.n_Flow_sent, by show 3 < 1000; decide, fun qa nqa => ?_⟩
  have qx : qa ≠ x := fun e => by rw [e, upd_same] at nqa; cases nqa
  refine ⟨_, rfl, x, _, dx, _, rfl, upd_at upd_same nqa, cf, fx.n_Flow_reached, by show 4 < 1000; decide, fun la nla => ?_⟩
  have lx : la ≠ x := fun e => by rw [e, upd_same] at nla; cases nla
  refine ⟨_, rfl, x, _, dx, _, rfl, upd_at upd_same nla, cf, fx.n_Flow_filled, by show 5 < 1000; decide, ?_⟩
  have nqa2 : H2 qa = none := by rw [upd_ne qx] at nqa; exact nqa
  have nla2 : H2 la = none := by
    rw [upd_ne lx] at nla
    by_cases e : la = qa
    · rw [e]; exact nqa2
    · rw [upd_ne e, upd_ne lx] at nla
      exact nla
  have keep : ∀ {b : Addr} {xs : List V}, H2 b = some (.lst xs) → ∀ {o1 o2 o3 o4 o5 : HO}, upd (upd (upd (upd (upd H2 x o1) qa o2) x o3) la o4) x o5 b = some (.lst xs) := fun {b xs} h {o1 o2 o3 o4 o5} => by
    have bx : b ≠ x := ne_of h hx2 fun z => by cases z
    rw [upd_ne bx, upd_ne (ne_of_none h nla2), upd_ne bx, upd_ne (ne_of_none h nqa2), upd_ne bx]
    exact h
  refine hq _ ⟨dx, fa, sa, ra, D, fr, tr⟩ qa la ?_ upd_same ?_ ?_ rfl rfl fun t ht => free (hfree t ht).1
  · have s1 := sx
    refine Sm.at (Sm.upd (Sm.at (Sm.upd (Sm.at (Sm.trans sx (Sm.of s))) (free (same_free s nqa2)))) (free (same_free s nla2)))
  · refine ⟨keep (s _ _ hf), ⟨hfr.1, fun y a e => keep (s _ _ (hfr.2 y a e))⟩, keep (s _ _ hs), keep (s _ _ hr1), keep hD, ⟨htr.1, fun y a e => keep (htr.2 y a e)⟩⟩
  · have ne : ∀ {t b : Addr} {o : HO}, H1 t = none → H1 b = some o → t ≠ b := fun h1 h2 e => by rw [e, h2] at h1; cases h1
    refine ⟨n1, fun t ht => ?_, n4, ⟨n2, n3, ne nD hs, ne nD hr1⟩, hnd⟩
    obtain ⟨t1, t2⟩ := hfree t ht
    refine ⟨ne t1 hs, ne t1 hr1, ne t1 hf, t2, fun m => ?_⟩
    obtain ⟨z, hz, e2⟩ := List.mem_iff_getElem.mp m
    have : H1 t = _ := hfr.2 z t (by rw [List.getElem?_eq_getElem hz, e2])
    rw [t1] at this
    cases this
end Km
end

section
set_option Elab.async false
set_option linter.all false
set_option maxRecDepth 100000
set_option maxHeartbeats 4000000
set_option pp.maxSteps 700
/-! Flow: way_to, pour. -/
namespace Km
open PySem PySem.Spec PyProof.Rows L2
variable {P : Program} {w : World} {K : PySem.W.Frag} {mg : Str → Option Value} {base : Heap}
def fiOf (F : List (Nat × Int)) (i : Nat) : Nat := ((F.lookup i).getD 0).toNat
def reOf (Q : List (Nat × Int)) (x : Nat) : Int := (Q.lookup x).getD (-1)
def WyL (H : Hp) (l : Addr) (w : List (Nat × Nat)) : Prop := ∃ as : List Addr, H l = some (.lst (as.map V.ref)) ∧ All2 (fun a p => H a = some (.tup [.int (p.1 : Nat), .int (p.2 : Nat)])) as w
structure NDk (Q F : List (Nat × Int)) : Prop where
  q : (Q.map Prod.fst).Nodup
  f : (F.map Prod.fst).Nodup
  p : ∀ e ∈ F, 0 ≤ e.2
theorem nl_get {L : List (Nat × Int)} {t : Nat} (h : t ∈ L.map Prod.fst) (nd : (L.map Prod.fst).Nodup) : ∃ v, (t, v) ∈ L ∧ L.lookup t = some v := by
  obtain ⟨⟨u, v⟩, he, rfl⟩ := List.mem_map.mp h
  exact ⟨v, he, nl_some nd he⟩
def spWay (K : PySem.W.Frag) : Sp := fun vs H Q _ => ∃ (x qa la : Addr) (A : FlA) (p : Nat) (R F : List (Nat × Int)) (w : List (Nat × Nat)), vs = [.ref x, .int p] ∧ FwI K H x A qa la ∧ H qa = some (.dK (ikv R)) ∧ H la = some (.dK (ikv F)) ∧ NDk R F ∧ Mt.Way (fiOf F) (reOf R) p w ∧
  (∀ e ∈ w, e.2 ∈ F.map Prod.fst ∧ e.1 ∈ R.map Prod.fst) ∧ w.length ≤ 1000 ∧ ∀ l H', Same H H' → WyL H' l w → Q (.ref l) H'
abbrev N_Flow_way_to : List PySem.Str := ["self", "place", "way", "i", "x"]
theorem sc_Flow_way_to : FnScope N_Flow_way_to ["self", "place"] (defScope s_Flow_way_to) := ⟨rfl, rfl, rfl, by decide +kernel, rfl, by decide +kernel, by decide +kernel⟩
theorem ok_way (fx : Fx K mg) : Met P w K mg base CX0 1 (He.ga K "Flow") "way_to" ["self", "place"] (spWay K) := by
  refine Met.of (p := ("Flow", some "way_to")) (st := s_Flow_way_to) fx.c_Flow fx.m_Flow_way_to fx.fd_Flow_way_to sc_Flow_way_to (fun _ _ _ _ _ _ _ us hl => match us, hl with | [_, _], _ => rfl) (fun vs H Q E h => by obtain ⟨x, qa, la, A, p, R, F, w, rfl, _⟩ := h; rfl) fun f cdv A outer s H vs Q E hr h => ⟨_, PSs.nox (pss_cons (ps_set (i := 2) sc_Flow_way_to.nd rfl (.inl rfl) (pe_lst pa_nil)) (pss_cons (ps_set (i := 3) sc_Flow_way_to.nd rfl (.inl rfl) (pv 1)) (pss_cons (ps_while PassesOwn.never (pt_cmpR op_ge (pv 3) pe_int (nomark _)) (pss_cons (ps_set (i := 4) sc_Flow_way_to.nd rfl (.inl rfl) (pe_dget (hu_of hr) (pe_fldK (K := K) rfl (pv 0) rfl) (pv 3) (fun _ _ => rfl))) (pss_cons (ps_expr (pe_bm PySem.F.plainAttrs_list PySem.F.slot_list_append PySem.F.type_list_append mt_append (pv 2) (pa_cons (pe_tup (pa_cons (pv 4) (pa_cons (pv 3) pa_nil))) pa_nil))) (pss_one (ps_set (i := 3) sc_Flow_way_to.nd rfl (.inl rfl) (pe_dget (hu_of hr) (pe_fldK (K := K) rfl (pv 0) rfl) (pv 4) (fun _ _ => rfl))))))) (pss_one (ps_ret (pv 2)))))), ?_⟩
  obtain ⟨x, qa, la, A, p, R, F, w', rfl, hx, hqa, hla, nd, hw, hin, hl, hq⟩ := h
  have cf := fx.c_Flow
  refine ⟨Nat.zero_le _, fun D nD => ⟨_, rfl, ?_⟩⟩
  refine ⟨fun m σ H' => ∃ (i : Int) (done rest : List (Nat × Nat)) (as : List Addr) (o : Option V), σ = [some (.ref x), some (.int p), some (.ref D), some (.int i), o] ∧ Same H H' ∧ H' D = some (.lst (as.map V.ref)) ∧ All2 (fun a p => H' a = some (.tup [.int (p.1 : Nat), .int (p.2 : Nat)])) as done ∧ Mt.Way (fiOf F) (reOf R) i rest ∧ w' = done ++ rest ∧ m = rest.length,
    ⟨_, p, [], w', [], none, rfl, same_new nD, upd_same, All2.nil, hw, rfl, rfl⟩, ?_⟩
  rintro m σ H1 ⟨i, done, rest, as, o, rfl, s, hD, has, hway, ew, rfl⟩
  refine ⟨_, rfl, _, _, rfl, rfl, _, rfl, ?_⟩
  refine ite2 (fun z => ?_) fun z => ?_
  · have z : (0 : Int) ≤ i := by simpa using z
    cases hway with
    | nil h => omega
    | @cons i rest h' =>
      obtain ⟨k1, k2⟩ := hin (fiOf F i, i) (by rw [ew]; simp)
      obtain ⟨v, hv, ev⟩ := nl_get k1 nd.f
      obtain ⟨u, hu, eu⟩ := nl_get k2 nd.q
      have v0 := nd.p _ hv
      have efi : v = ((fiOf F i : Nat) : Int) := by
        unfold fiOf
        rw [ev]
        exact (Int.toNat_of_nonneg v0).symm
      have ere : u = reOf R (fiOf F i) := by
        unfold reOf
        rw [eu] <;> rfl
      refine ⟨fun σ' H2 => ∃ (T : Addr), H1 T = none ∧ H2 = upd (upd H1 T (.tup [.int (fiOf F i : Nat), .int (i : Nat)])) D (.lst ((as ++ [T]).map V.ref)) ∧ σ' = [some (.ref x), some (.int p), some (.ref D), some (.int (reOf R (fiOf F i))), some (.int (fiOf F i : Nat))], ?_, ?_⟩
      · rintro σ' H2 ⟨T, nT, rfl, rfl⟩
        have TD : T ≠ D := fun e => by rw [e, hD] at nT; cases nT
        refine ⟨rest.length, by simp, _, done ++ [(fiOf F i, i)], rest, as ++ [T], _, rfl, same_upd (same_upd s (same_free s nT)) nD, upd_same, ?_, h', by rw [ew]; simp, rfl⟩
        exact (has.mono fun a p h => upd_to (upd_at h nT) (ne_of (show H1 a = _ from h) hD fun z => by cases z)).snoc (upd_to upd_same TD)
      · refine ⟨_, rfl, x, _, _, _, _, rfl, s _ _ hx, cf, fx.n_Flow_filled, rfl, _, rfl, la, .int v, rfl, .inl ⟨_, Sum.inl (i : Int), .inl (s _ _ hla), rfl, (ikv_some nd.f hv).symm⟩, ?_⟩
        rw [efi]
        refine ⟨_, rfl, .inl ⟨rfl, _, .inl (.inl hD)⟩, _, rfl, _, rfl, by show 2 ≤ sizeLine; decide, fun T nT => ?_⟩
        have hl2 : as.length ≤ 1000 := by rw [has.1]; rw [ew, List.length_append] at hl; omega
        refine ⟨D, _, _, rfl, rfl, upd_at hD nT, small1000 (by rw [List.length_map]; omega), ?_⟩
        have s2 := same_upd (o := .lst (as.map V.ref ++ [V.ref T])) (same_upd (o := .tup [.int (fiOf F i : Nat), .int (i : Nat)]) s (same_free s nT)) nD
        refine ⟨_, rfl, x, _, _, _, _, rfl, s2 _ _ hx, cf, fx.n_Flow_reached, rfl, _, rfl, qa, .int u, rfl, .inl ⟨_, Sum.inl (fiOf F i : Int), .inl (s2 _ _ hqa), rfl, (ikv_some nd.q hu).symm⟩, T, nT, ?_, ?_⟩
        · rw [List.map_append]
          rfl
        · rw [ere]
          rfl
  · have z : ¬ (0 : Int) ≤ i := by simpa using z
    have e : rest = [] := Mt.way_nil hway (by omega)
    subst e
    rw [List.append_nil] at ew
    subst ew
    exact ⟨_, rfl, hq D _ s ⟨as, hD, has⟩⟩
/-! ### pour -/
/-- what is kept when the flow moves -/
def SmF (A : FlA) (H H' : Hp) : Prop := ∀ b o, b ≠ A.sa → b ≠ A.ra → ¬ b ∈ A.tr → H b = some o → H' b = some o
theorem SmF.refl (A : FlA) (H : Hp) : SmF A H H := fun _ _ _ _ _ h => h
theorem SmF.sa {A : FlA} {H H' : Hp} {o : HO} (h : SmF A H H') : SmF A H (upd H' A.sa o) := fun b u h1 h2 h3 e => upd_to (h b u h1 h2 h3 e) h1
theorem SmF.ra {A : FlA} {H H' : Hp} {o : HO} (h : SmF A H H') : SmF A H (upd H' A.ra o) := fun b u h1 h2 h3 e => upd_to (h b u h1 h2 h3 e) h2
theorem SmF.tr {A : FlA} {H H' : Hp} {t : Addr} {o : HO} (h : SmF A H H') (ht : t ∈ A.tr) : SmF A H (upd H' t o) := fun b u h1 h2 h3 e => upd_to (h b u h1 h2 h3 e) fun z => h3 (z ▸ ht)
/-- an instance is none of the lists -/
theorem FwI.ne {H : Hp} {x : Addr} {A : FlA} {qa la : Addr} {N M : Nat} {fits : Nat → Nat → Bool} {f : Nat → Nat → Int} {sup room : Nat → Int} (h : FwI K H x A qa la) (hb : FwB H A N M fits f sup room) : x ≠ A.sa ∧ x ≠ A.ra ∧ ¬ x ∈ A.tr :=
  ⟨ne_of (show H x = _ from h) hb.hs fun z => (by cases z), ne_of (show H x = _ from h) hb.hr fun z => (by cases z), fun m => by
    obtain ⟨z, hz, e2⟩ := List.mem_iff_getElem.mp m
    have : H x = _ := hb.tr.2 z x (by rw [List.getElem?_eq_getElem hz, e2])
    rw [show H x = _ from h] at this
    cases this⟩
theorem SmF.ins {H H' : Hp} {x : Addr} {A : FlA} {qa la : Addr} {N M : Nat} {fits : Nat → Nat → Bool} {f : Nat → Nat → Int} {sup room : Nat → Int} (s : SmF A H H') (h : FwI K H x A qa la) (hb : FwB H A N M fits f sup room) : FwI K H' x A qa la :=
  let ⟨a, b, c⟩ := h.ne hb; s _ _ a b c h
def spPour (K : PySem.W.Frag) : Sp := fun vs H Q _ => ∃ (x qa la : Addr) (A : FlA) (N M : Nat) (fits : Nat → Nat → Bool) (S R : Nat → Int) (f : Nat → Nat → Int) (sup room : Nat → Int) (lb : Nat → Bool), vs = [.ref x] ∧ FwI K H x A qa la ∧ FwB H A N M fits f sup room ∧ A.Ap ∧ N ≤ 100 ∧ M ≤ 100 ∧
  Mt.FI N M fits S R f sup room ∧ Mt.Closed N M fits f sup room lb ∧ ∀ H' g s r, SmF A H H' → FwB H' A N M fits g s r → Mt.PI N M fits S R f sup room N 0 g s r → Q .non H'
abbrev N_Flow_pour : List PySem.Str := ["self", "x", "i", "many"]
theorem sc_Flow_pour : FnScope N_Flow_pour ["self"] (defScope s_Flow_pour) := ⟨rfl, rfl, rfl, by decide +kernel, rfl, by decide +kernel, by decide +kernel⟩
theorem ok_pour (fx : Fx K mg) : Met P w K mg base CX0 1 (He.ga K "Flow") "pour" ["self"] (spPour K) := by
  refine Met.of (p := ("Flow", some "pour")) (st := s_Flow_pour) fx.c_Flow fx.m_Flow_pour fx.fd_Flow_pour sc_Flow_pour (fun _ _ _ _ _ _ _ us hl => match us, hl with | [_], _ => rfl) (fun vs H Q E h => by obtain ⟨x, qa, la, A, N, M, fits, S, R, f, sup, room, lb, rfl, _⟩ := h; rfl) fun f cdv A outer s H vs Q E hr h => ⟨_, PSs.nox (pss_one (ps_for PassesOwn.never rfl (pi_range1 rfl fx.f_range (pa_cons (pe_callB (call_lenK (K := K) rfl) rfl fx.f_len boot_len (pa_cons (pe_fldK (K := K) rfl (pv 0) rfl) pa_nil)) pa_nil)) (pg_name (i := 1) sc_Flow_pour.nd rfl (.inl rfl)) (pss_one (ps_for PassesOwn.never rfl (pi_range1 rfl fx.f_range (pa_cons (pe_callB (call_lenK (K := K) rfl) rfl fx.f_len boot_len (pa_cons (pe_fldK (K := K) rfl (pv 0) rfl) pa_nil)) pa_nil)) (pg_name (i := 2) sc_Flow_pour.nd rfl (.inl rfl)) (pss_cons (ps_set (i := 3) sc_Flow_pour.nd rfl (.inl rfl) (pe_callB (call_min2 rfl) rfl fx.f_min boot_min (pa_cons (pe_ix (ix_listK (K := K) rfl) (pe_fldK (K := K) rfl (pv 0) rfl) (pv 1) (fun _ _ => rfl)) (pa_cons (pe_ix (ix_listK (K := K) rfl) (pe_fldK (K := K) rfl (pv 0) rfl) (pv 2) (fun _ _ => rfl)) pa_nil)))) (pss_cons (ps_augS (pe_ix (ix_listK (K := K) rfl) (pe_fldK (K := K) rfl (pv 0) rfl) (pv 1) (fun _ _ => rfl)) (pv 2) get_list (pv 3) ip_add set_list) (pss_cons (ps_augS (pe_fldK (K := K) rfl (pv 0) rfl) (pv 1) get_list (pv 3) ip_sub set_list) (pss_one (ps_augS (pe_fldK (K := K) rfl (pv 0) rfl) (pv 2) get_list (pv 3) ip_sub set_list))))))))), ?_⟩
  obtain ⟨x, qa, la, A, N, M, fits, S, R, fl, sup, room, lb, rfl, hx, hb, ap, hN, hM, FI, CL, hq⟩ := h
  have cf := fx.c_Flow
  refine ⟨_, rfl, x, _, _, _, _, rfl, hx, cf, fx.n_Flow_supply, rfl, _, N, rfl, .inl ⟨_, .inl (.inl hb.hs), (vec_len _ _).symm⟩, _, rfl, by omega, by omega, ?_⟩
  refine for_range (n := N) (fun j σ H' => ∃ (o1 o2 o3 : Option V) (g : Nat → Nat → Int) (s r : Nat → Int), σ = [some (.ref x), o1, o2, o3] ∧ SmF A H H' ∧ FwB H' A N M fits g s r ∧ Mt.PI N M fits S R fl sup room j 0 g s r)
    ⟨none, none, none, fl, sup, room, rfl, SmF.refl _ _, hb, Mt.pour_start FI⟩ ?_ ?_
  · rintro j σ H1 hj ⟨o1, o2, o3, g, s, r, rfl, m1, b1, P1⟩
    have hx1 := m1.ins hx hb
    rw [Int.zero_add]
    refine ⟨_, rfl, x, _, _, _, _, rfl, hx1, cf, fx.n_Flow_room, rfl, _, M, rfl, .inl ⟨_, .inl (.inl b1.hr), (vec_len _ _).symm⟩, _, rfl, by omega, by omega, ?_⟩
    refine for_range (n := M) (fun i σ H' => ∃ (o2 o3 : Option V) (g : Nat → Nat → Int) (s r : Nat → Int), σ = [some (.ref x), some (.int (j : Nat)), o2, o3] ∧ SmF A H H' ∧ FwB H' A N M fits g s r ∧ Mt.PI N M fits S R fl sup room j i g s r)
      ⟨o2, o3, g, s, r, rfl, m1, b1, P1⟩ ?_ ?_
    · rintro i σ H2 hi ⟨o2, o3, g, s, r, rfl, m2, b2, P2⟩
      have hx2 := m2.ins hx hb
      rw [Int.zero_add]
      obtain ⟨t, ht, htm, hta⟩ := b2.tr.get hj
      obtain ⟨many, hm⟩ : ∃ m, m = (if r i < s j then r i else s j) := ⟨_, rfl⟩
      refine ⟨_, rfl, x, _, _, _, _, rfl, hx2, cf, fx.n_Flow_supply, rfl, _, rfl, A.sa, _, _, _, rfl, rfl, .inl (.inl b2.hs), atI_vec _ hj, ?_⟩
      refine ⟨_, rfl, x, _, _, _, _, rfl, hx2, cf, fx.n_Flow_room, rfl, _, rfl, A.ra, _, _, _, rfl, rfl, .inl (.inl b2.hr), atI_vec _ hi, _, _, rfl, ?_⟩
      rw [← hm]
      refine ⟨_, rfl, x, _, _, _, _, rfl, hx2, cf, fx.n_Flow_sent, rfl, _, rfl, A.ta, _, _, _, rfl, rfl, .inl (.inl b2.ht), atI_rows ht, _, rfl, t, _, _, _, rfl, rfl, .inl (.inl hta), atI_vec _ hi, _, rfl, _, _, rfl, rfl, t, _, _, i, rfl, rfl, hta, by rw [vec_len]; exact ixN_nat hi, ?_⟩
      have b3 := b2.sent ap ht (i := i) many
      have m3 : SmF A H (upd H2 t (.lst ((vI M (g j)).set i (.int (g j i + many))))) := m2.tr htm
      have hx3 := m3.ins hx hb
      show (fun H3 => _) (upd H2 t (.lst ((vI M (g j)).set i (.int (g j i + many)))))
      generalize upd H2 t (.lst ((vI M (g j)).set i (.int (g j i + many)))) = H3 at b3 m3 hx3
      refine ⟨_, rfl, x, _, _, _, _, rfl, hx3, cf, fx.n_Flow_supply, rfl, _, rfl, A.sa, _, _, _, rfl, rfl, .inl (.inl b3.hs), atI_vec _ hj, _, rfl, _, _, rfl, rfl, A.sa, _, _, j, rfl, rfl, b3.hs, by rw [vec_len]; exact ixN_nat hj, ?_⟩
      have b4 := b3.supl ap j (-many)
      rw [← Int.sub_eq_add_neg] at b4
      have m4 : SmF A H (upd H3 A.sa (.lst ((vI N s).set j (.int (s j - many))))) := m3.sa
      have hx4 := m4.ins hx hb
      show (fun H3 => _) (upd H3 A.sa (.lst ((vI N s).set j (.int (s j - many)))))
      generalize upd H3 A.sa (.lst ((vI N s).set j (.int (s j - many)))) = H4 at b4 m4 hx4
      refine ⟨_, rfl, x, _, _, _, _, rfl, hx4, cf, fx.n_Flow_room, rfl, _, rfl, A.ra, _, _, _, rfl, rfl, .inl (.inl b4.hr), atI_vec _ hi, _, rfl, _, _, rfl, rfl, A.ra, _, _, i, rfl, rfl, b4.hr, by rw [vec_len]; exact ixN_nat hi, ?_⟩
      have b5 := b4.roo ap i (-many)
      rw [← Int.sub_eq_add_neg] at b5
      have m5 : SmF A H (upd H4 A.ra (.lst ((vI M r).set i (.int (r i - many))))) := m4.ra
      refine ⟨_, _, _, _, _, rfl, m5, b5, Mt.pour_step CL P2 hj hi ?_⟩
      rw [hm]
      by_cases z : r i < s j
      · rw [if_pos z]
        exact .inr ⟨rfl, by omega⟩
      · rw [if_neg z]
        exact .inl ⟨rfl, by omega⟩
    · rintro σ H2 ⟨o2, o3, g, s, r, rfl, m2, b2, P2⟩
      exact ⟨_, o2, o3, g, s, r, rfl, m2, b2, Mt.pour_next P2⟩
  · rintro σ H' ⟨o1, o2, o3, g, s, r, rfl, m1, b1, P1⟩
    exact hq H' g s r m1 b1 P1
end Km
end

section
set_option Elab.async false
set_option linter.all false
/-! The search, in plain terms. -/
namespace Km
abbrev ks (R : List (Nat × Int)) : List Nat := R.map Prod.fst
structure SI (N M : Nat) (fits : Nat → Nat → Bool) (f : Nat → Nat → Int) (sup : Nat → Int) (R F : List (Nat × Int)) : Prop where
  rnd : (ks R).Nodup
  fnd : (ks F).Nodup
  rN : ∀ x ∈ ks R, x < N
  src : ∀ x, x < N → 0 < sup x → x ∈ ks R
  rr : ∀ (p : Nat) (e : Nat × Int), R[p]? = some e → (e.2 = -1 ∧ 0 < sup e.1) ∨ ∃ (j q : Nat) (e' : Nat × Int), e.2 = (j : Int) ∧ q < p ∧ R[q]? = some e' ∧ (j, (e'.1 : Int)) ∈ F ∧ 0 < f e.1 j
  ff : ∀ e ∈ F, e.1 < M ∧ ∃ y : Nat, e.2 = (y : Int) ∧ y ∈ ks R ∧ fits y e.1 = true
/-- the texts before place k of the queue are through; of place k the keys before i -/
structure SD (N M : Nat) (fits : Nat → Nat → Bool) (f : Nat → Nat → Int) (room : Nat → Int) (R F : List (Nat × Int)) (k i : Nat) : Prop where
  full : ∀ j ∈ ks F, room j ≤ 0
  back : ∀ j ∈ ks F, ∀ y, y < N → 0 < f y j → y ∈ ks R
  done : ∀ (p : Nat) (e : Nat × Int), R[p]? = some e → p < k → ∀ j, j < M → fits e.1 j = true → j ∈ ks F
  cur : ∀ (e : Nat × Int), R[k]? = some e → ∀ j, j < i → fits e.1 j = true → j ∈ ks F
section
variable {N M : Nat} {fits : Nat → Nat → Bool} {f : Nat → Nat → Int} {sup room : Nat → Int} {R F : List (Nat × Int)} {k i : Nat}
theorem SI.ndk (s : SI N M fits f sup R F) : NDk R F := ⟨s.rnd, s.fnd, fun e he => by
  obtain ⟨_, y, h, _⟩ := s.ff e he
  omega⟩
theorem SI.len (s : SI N M fits f sup R F) : R.length ≤ N := by
  have h := len_sub (xs := ks R) (ys := List.range N) s.rnd fun x hx => List.mem_range.mpr (s.rN x hx)
  rwa [List.length_map, List.length_range] at h
theorem SI.lenF (s : SI N M fits f sup R F) : F.length ≤ M := by
  have h := len_sub (xs := ks F) (ys := List.range M) s.fnd fun x hx => by
    obtain ⟨e, he, rfl⟩ := List.mem_map.mp hx
    exact List.mem_range.mpr (s.ff e he).1
  rwa [List.length_map, List.length_range] at h
def start (N : Nat) (sup : Nat → Int) : List (Nat × Int) := ((List.range N).filter fun x => decide (0 < sup x)).map fun x => (x, -1)
theorem start_ks (N : Nat) (sup : Nat → Int) : ks (start N sup) = (List.range N).filter fun x => decide (0 < sup x) := by
  unfold ks start
  rw [List.map_map]
  exact List.map_id _
theorem SI.start : SI N M fits f sup (start N sup) [] := by
  have nd : (ks (Km.start N sup)).Nodup := by
    rw [start_ks]
    exact List.nodup_range.filter _
  refine ⟨nd, List.nodup_nil, fun x hx => ?_, fun x hx h => ?_, fun p e he => ?_, fun e he => (by cases he)⟩
  · rw [start_ks] at hx
    exact List.mem_range.mp (List.mem_filter.mp hx).1
  · rw [start_ks]
    exact List.mem_filter.mpr ⟨List.mem_range.mpr hx, decide_eq_true h⟩
  · obtain ⟨x, hx, rfl⟩ := List.mem_map.mp (List.mem_of_getElem? he)
    exact .inl ⟨rfl, of_decide_eq_true (List.mem_filter.mp hx).2⟩
theorem SD.start : SD N M fits f room R [] 0 0 := ⟨fun j h => (by cases h), fun j h => (by cases h), fun p e h hp => by omega, fun e h j hj => by omega⟩
theorem SD.next (d : SD N M fits f room R F k M) : SD N M fits f room R F (k + 1) 0 :=
  ⟨d.full, d.back, fun p e h hp j hj hf => by
    by_cases q : p < k
    · exact d.done p e h q j hj hf
    · have : p = k := by omega
      subst this
      exact d.cur e h j hj hf, fun e h j hj => by omega⟩
theorem SD.skip (d : SD N M fits f room R F k i) (h : ∀ e, R[k]? = some e → fits e.1 i = true → i ∈ ks F) : SD N M fits f room R F k (i + 1) :=
  ⟨d.full, d.back, d.done, fun e he j hj hf => by
    by_cases q : j < i
    · exact d.cur e he j q hf
    · have : j = i := by omega
      subst this
      exact h e he hf⟩
def pmore (f : Nat → Nat → Int) (i : Nat) (R : List (Nat × Int)) (y : Nat) : Bool := decide (0 < f y i) && !decide (y ∈ ks R)
def more (N : Nat) (f : Nat → Nat → Int) (i : Nat) (R : List (Nat × Int)) : List Nat := (List.range N).filter (pmore f i R)
theorem more_mem {y : Nat} : y ∈ more N f i R ↔ y < N ∧ 0 < f y i ∧ ¬ y ∈ ks R := by
  unfold more pmore
  rw [List.mem_filter, List.mem_range]
  simp
theorem more_nd : (more N f i R).Nodup := List.nodup_range.filter _
theorem ks_more (L : List Nat) (R : List (Nat × Int)) (v : Int) : ks (R ++ L.map fun y => (y, v)) = ks R ++ L := by
  unfold ks
  rw [List.map_append, List.map_map]
  congr 1
  exact List.map_id _
theorem SI.fill (s : SI N M fits f sup R F) {e : Nat × Int} (he : R[k]? = some e) (hi : i < M) (hf : fits e.1 i = true) (hn : ¬ i ∈ ks F) : SI N M fits f sup R (F ++ [(i, (e.1 : Int))]) := by
  have hx : e.1 ∈ ks R := List.mem_map.mpr ⟨e, List.mem_of_getElem? he, rfl⟩
  refine ⟨s.rnd, ?_, s.rN, s.src, fun p u hu => ?_, fun u hu => ?_⟩
  · show ((F ++ [(i, (e.1 : Int))]).map Prod.fst).Nodup
    rw [List.map_append]
    exact List.nodup_append.mpr ⟨s.fnd, by simp, fun a ha b hb q => hn (by
      have q : a = i := q.trans (List.mem_singleton.mp hb)
      rw [← q]
      exact ha)⟩
  · rcases s.rr p u hu with h | ⟨j, q, e', h1, h2, h3, h4, h5⟩
    · exact .inl h
    · exact .inr ⟨j, q, e', h1, h2, h3, List.mem_append_left _ h4, h5⟩
  · rcases List.mem_append.mp hu with hu | hu
    · exact s.ff u hu
    · rw [List.mem_singleton.mp hu]
      exact ⟨hi, e.1, rfl, hx, hf⟩
theorem SI.more (s : SI N M fits f sup R F) {e : Nat × Int} (he : R[k]? = some e) (hF : (i, (e.1 : Int)) ∈ F) : SI N M fits f sup (R ++ (more N f i R).map fun y => (y, (i : Int))) F := by
  have hk : k < R.length := (List.getElem?_eq_some_iff.mp he).1
  refine ⟨?_, s.fnd, fun x hx => ?_, fun x hx h => ?_, fun p u hu => ?_, fun u hu => ?_⟩
  · rw [ks_more]
    exact List.nodup_append.mpr ⟨s.rnd, more_nd, fun a ha b hb q => (more_mem.mp hb).2.2 (by rw [← q]; exact ha)⟩
  · rw [ks_more] at hx
    rcases List.mem_append.mp hx with hx | hx
    · exact s.rN x hx
    · exact (more_mem.mp hx).1
  · rw [ks_more]
    exact List.mem_append_left _ (s.src x hx h)
  · by_cases q : p < R.length
    · rw [List.getElem?_append_left q] at hu
      rcases s.rr p u hu with h | ⟨j, q', e', h1, h2, h3, h4, h5⟩
      · exact .inl h
      · exact .inr ⟨j, q', e', h1, h2, by rw [List.getElem?_append_left (by omega)]; exact h3, h4, h5⟩
    · rw [List.getElem?_append_right (by omega)] at hu
      obtain ⟨y, hy, rfl⟩ := List.mem_map.mp (List.mem_of_getElem? hu)
      exact .inr ⟨i, k, e, rfl, by omega, by rw [List.getElem?_append_left hk]; exact he, hF, (more_mem.mp hy).2.1⟩
  · obtain ⟨h1, y, h2, h3, h4⟩ := s.ff u hu
    exact ⟨h1, y, h2, by rw [ks_more]; exact List.mem_append_left _ h3, h4⟩
theorem SD.more (d : SD N M fits f room R F k i) {e : Nat × Int} (he : R[k]? = some e) (hr : room i ≤ 0) : SD N M fits f room (R ++ (more N f i R).map fun y => (y, (i : Int))) (F ++ [(i, (e.1 : Int))]) k (i + 1) := by
  have hk : k < R.length := (List.getElem?_eq_some_iff.mp he).1
  have ksF : ks (F ++ [(i, (e.1 : Int))]) = ks F ++ [i] := by
    unfold ks
    rw [List.map_append]
    rfl
  rw [show SD N M fits f room (R ++ (Km.more N f i R).map fun y => (y, (i : Int))) (F ++ [(i, (e.1 : Int))]) k (i + 1) = SD N M fits f room (R ++ (Km.more N f i R).map fun y => (y, (i : Int))) (F ++ [(i, (e.1 : Int))]) k (i + 1) from rfl]
  refine ⟨fun j hj => ?_, fun j hj y hy h => ?_, fun p u hu hp j hj hf => ?_, fun u hu j hj hf => ?_⟩
  · rw [ksF] at hj
    rcases List.mem_append.mp hj with hj | hj
    · exact d.full j hj
    · rw [List.mem_singleton.mp hj]
      exact hr
  · rw [ks_more]
    rw [ksF] at hj
    rcases List.mem_append.mp hj with hj | hj
    · exact List.mem_append_left _ (d.back j hj y hy h)
    · rw [List.mem_singleton.mp hj] at h
      by_cases q : y ∈ ks R
      · exact List.mem_append_left _ q
      · exact List.mem_append_right _ (more_mem.mpr ⟨hy, h, q⟩)
  · rw [ksF]
    rw [List.getElem?_append_left (by omega)] at hu
    exact List.mem_append_left _ (d.done p u hu hp j hj hf)
  · rw [ksF]
    rw [List.getElem?_append_left hk] at hu
    by_cases q : j < i
    · exact List.mem_append_left _ (d.cur u hu j q hf)
    · exact List.mem_append_right _ (by rw [List.mem_singleton]; omega)
def lbOf (R : List (Nat × Int)) (x : Nat) : Bool := decide (x ∈ ks R)
theorem SI.closed (s : SI N M fits f sup R F) (d : SD N M fits f room R F R.length 0) : Mt.Closed N M fits f sup room (lbOf R) := by
  have all : ∀ x ∈ ks R, ∀ j, j < M → fits x j = true → j ∈ ks F := fun x hx j hj hf => by
    obtain ⟨e, he, rfl⟩ := List.mem_map.mp hx
    obtain ⟨p, hp, rfl⟩ := List.mem_iff_getElem.mp he
    exact d.done p _ (List.getElem?_eq_getElem hp) hp j hj hf
  refine ⟨fun x hx h => decide_eq_true (s.src x hx h), fun x i hx hi h hf => ?_, fun x i y hx hi hy h hf h0 => ?_⟩
  · exact d.full i (all x (of_decide_eq_true h) i hi hf)
  · exact decide_eq_true (d.back i (all x (of_decide_eq_true h) i hi hf) y hy h0)
theorem SI.tree (s : SI N M fits f sup R F) : Mt.Tree N M fits f sup (fiOf F) (reOf R) (· ∈ ks F) (· ∈ ks R) (fun x => (ks R).idxOf x) := by
  have fi : ∀ j (y : Nat), (j, (y : Int)) ∈ F → fiOf F j = y := fun j y h => by
    unfold fiOf
    rw [nl_some s.fnd h]
    simp
  have ix : ∀ (p : Nat) (e : Nat × Int), R[p]? = some e → (ks R).idxOf e.1 = p := fun p e h => by
    obtain ⟨hp, rfl⟩ := List.getElem?_eq_some_iff.mp h
    have hp' : p < (ks R).length := by rw [List.length_map]; exact hp
    have := s.rnd.idxOf_getElem p hp'
    rwa [List.getElem_map] at this
  refine ⟨fun j hj => ?_, fun x hx => ?_⟩
  · obtain ⟨v, hv, ev⟩ := nl_get hj s.fnd
    obtain ⟨h1, y, h2, h3, h4⟩ := s.ff _ hv
    have h2 : v = (y : Int) := h2
    subst h2
    rw [fi j y hv]
    exact ⟨h1, h3, h4⟩
  · refine ⟨s.rN x hx, ?_⟩
    obtain ⟨e, he, rfl⟩ := List.mem_map.mp hx
    obtain ⟨p, hp⟩ := List.mem_iff_getElem?.mp he
    have re : reOf R e.1 = e.2 := by
      unfold reOf
      rw [nl_some s.rnd he] <;> rfl
    rcases s.rr p e hp with ⟨h1, h2⟩ | ⟨j, q, e', h1, h2, h3, h4, h5⟩
    · exact .inl ⟨re.trans h1, h2⟩
    · refine .inr ⟨j, re.trans h1, List.mem_map.mpr ⟨_, h4, rfl⟩, h5, ?_⟩
      rw [fi j e'.1 h4, ix q e' h3, ix p e hp]
      exact h2
end
end Km
end

section
set_option Elab.async false
set_option linter.all false
set_option maxRecDepth 100000
set_option maxHeartbeats 4000000
set_option pp.maxSteps 700
/-! Flow: search. -/
namespace Km
open PySem PySem.Spec PyProof.Rows L2
variable {P : Program} {w : World} {K : PySem.W.Frag} {mg : Str → Option Value} {base : Heap}
abbrev nI (L : List Nat) : List V := L.map fun n : Nat => V.int n
theorem nI_snoc (L : List Nat) (n : Nat) : nI (L ++ [n]) = nI L ++ [V.int (n : Nat)] := List.map_append
structure SH (K : PySem.W.Frag) (H0 H : Hp) (x : Addr) (A : FlA) (qa la qu : Addr) (R F : List (Nat × Int)) : Prop where
  ins : FwI K H x A qa la
  hq : H qa = some (.dK (ikv R))
  hl : H la = some (.dK (ikv F))
  hu : H qu = some (.lst (nI (ks R)))
  nq : H0 qa = none
  nl : H0 la = none
  nu : H0 qu = none
  ne : qa ≠ la
  sm : Sm x H0 H
  nx : H0 x ≠ none
section
variable {H0 H : Hp} {x : Addr} {A : FlA} {qa la qu : Addr} {R F : List (Nat × Int)}
theorem SH.free (s : SH K H0 H x A qa la qu R F) {p : Addr} (h : H p = none) : H0 p = none := by
  cases e : H0 p with
  | none => rfl
  | some o =>
    by_cases q : p = x
    · rw [q, show H x = _ from s.ins] at h
      cases h
    · rw [s.sm p o q e] at h
      cases h
theorem SH.new (s : SH K H0 H x A qa la qu R F) {p : Addr} {o : HO} (h : H p = none) : SH K H0 (upd H p o) x A qa la qu R F :=
  ⟨upd_at s.ins h, upd_at s.hq h, upd_at s.hl h, upd_at s.hu h, s.nq, s.nl, s.nu, s.ne, s.sm.upd (s.free h), s.nx⟩
/-- a new list is turned -/
theorem SH.to (s : SH K H0 H x A qa la qu R F) {p : Addr} {xs : List V} {o : HO} (h : H p = some (.lst xs)) (h0 : H0 p = none) (hu : p ≠ qu) : SH K H0 (upd H p o) x A qa la qu R F :=
  ⟨upd_to s.ins (ne_of (show H x = _ from s.ins) h fun z => by cases z), upd_to s.hq (ne_of s.hq h fun z => by cases z), upd_to s.hl (ne_of s.hl h fun z => by cases z), upd_to s.hu (Ne.symm hu), s.nq, s.nl, s.nu, s.ne, s.sm.upd h0, s.nx⟩
theorem SH.fil (s : SH K H0 H x A qa la qu R F) (F' : List (Nat × Int)) : SH K H0 (upd H la (.dK (ikv F'))) x A qa la qu R F' :=
  ⟨upd_to s.ins (ne_of (show H x = _ from s.ins) s.hl fun z => by cases z), upd_to s.hq s.ne, upd_same, upd_to s.hu (ne_of s.hu s.hl fun z => by cases z), s.nq, s.nl, s.nu, s.ne, s.sm.upd s.nl, s.nx⟩
theorem SH.rea (s : SH K H0 H x A qa la qu R F) (R' : List (Nat × Int)) : SH K H0 (upd (upd H qa (.dK (ikv R'))) qu (.lst (nI (ks R')))) x A qa la qu R' F := by
  have q1 : qa ≠ qu := ne_of s.hq s.hu fun z => by cases z
  have q2 : la ≠ qu := ne_of s.hl s.hu fun z => by cases z
  exact ⟨upd_to (upd_to s.ins (ne_of (show H x = _ from s.ins) s.hq fun z => by cases z)) (ne_of (show H x = _ from s.ins) s.hu fun z => by cases z), upd_to upd_same q1, upd_to (upd_to s.hl (Ne.symm s.ne)) q2, upd_same, s.nq, s.nl, s.nu, s.ne, (s.sm.upd s.nq).upd s.nu, s.nx⟩
theorem SH.fb (s : SH K H0 H x A qa la qu R F) {N M : Nat} {fits : Nat → Nat → Bool} {f : Nat → Nat → Int} {sup room : Nat → Int} {qa0 la0 : Addr} (h : FwI K H0 x A qa0 la0) (hb : FwB H0 A N M fits f sup room) : FwB H A N M fits f sup room :=
  hb.keep fun b xs e => s.sm b _ (ne_of e (show H0 x = _ from h) fun z => by cases z) e
end
theorem start_snoc (j : Nat) (sup : Nat → Int) : start (j + 1) sup = start j sup ++ (if 0 < sup j then [(j, -1)] else []) := by
  unfold start
  rw [List.range_succ, List.filter_append, List.map_append, List.filter_cons]
  by_cases h : 0 < sup j
  · rw [if_pos h, if_pos (decide_eq_true h)]
    rfl
  · rw [if_neg h, if_neg (by simpa using h)]
    rfl
theorem start_lt (j : Nat) (sup : Nat → Int) : ¬ j ∈ ks (start j sup) := fun h => by
  rw [start_ks] at h
  have := List.mem_range.mp (List.mem_filter.mp h).1
  omega
theorem start_len (j : Nat) (sup : Nat → Int) : (start j sup).length ≤ j := by
  have h : (ks (start j sup)).length ≤ j := by
    rw [start_ks]
    exact Nat.le_trans (List.length_filter_le _ _) (by rw [List.length_range]; exact Nat.le_refl _)
  rwa [List.length_map] at h
def spSearch (K : PySem.W.Frag) : Sp := fun vs H Q _ => ∃ (x qa la : Addr) (A : FlA) (N M : Nat) (fits : Nat → Nat → Bool) (f : Nat → Nat → Int) (sup room : Nat → Int), vs = [.ref x] ∧ FwI K H x A qa la ∧ FwB H A N M fits f sup room ∧ N ≤ 100 ∧ M ≤ 100 ∧
  ∀ v H' qa' la' R F, Sm x H H' → FwI K H' x A qa' la' → H' qa' = some (.dK (ikv R)) → H' la' = some (.dK (ikv F)) → SI N M fits f sup R F → ((v = -1 ∧ SD N M fits f room R F R.length 0) ∨ ∃ i : Nat, v = (i : Int) ∧ 0 < room i ∧ i ∈ ks F) → Q (.int v) H'
abbrev N_Flow_search : List PySem.Str := ["self", "x", "queue", "at", "i", "more", "y"]
theorem sc_Flow_search : FnScope N_Flow_search ["self"] (defScope s_Flow_search) := ⟨rfl, rfl, rfl, by decide +kernel, rfl, by decide +kernel, by decide +kernel⟩
theorem ok_search (fx : Fx K mg) : Met P w K mg base CX0 1 (He.ga K "Flow") "search" ["self"] (spSearch K) := by
  refine Met.of (p := ("Flow", some "search")) (st := s_Flow_search) fx.c_Flow fx.m_Flow_search fx.fd_Flow_search sc_Flow_search (fun _ _ _ _ _ _ _ us hl => match us, hl with | [_], _ => rfl) (fun vs H Q E h => by obtain ⟨x, qa, la, A, N, M, fits, f, sup, room, rfl, _⟩ := h; rfl) fun f cdv A outer s H vs Q E hr h => ⟨_, PSs.nox (pss_cons (ps_fld (pv 0) (pe_dc (own := [("x", 1)]) rfl sc_Flow_search.nd (pi_range1 rfl fx.f_range (pa_cons (pe_callB (call_lenK (K := K) rfl) rfl fx.f_len boot_len (pa_cons (pe_fldK (K := K) rfl (pv 0) rfl) pa_nil)) pa_nil)) (blkOk_by (N := N_Flow_search) (sc := defScope s_Flow_search) (by decide +kernel)) (fun _ _ _ _ _ => (pg_name (i := 1) sc_Flow_search.nd rfl (.inl rfl))) (fun _ _ _ _ _ => (pts_one (pt_cmpR op_gt (pe_ix (ix_listK (K := K) rfl) (pe_fldK (K := K) rfl (pv 0) rfl) (pv 1) (fun _ _ => rfl)) pe_int (nomark _)))) (fun _ _ _ _ _ => (pv 1)) (fun _ _ _ _ _ => (pe_un un_neg pe_int))) rfl) (pss_cons (ps_fld (pv 0) pe_dnewK rfl) (pss_cons (ps_set (i := 2) sc_Flow_search.nd rfl (.inl rfl) (pe_callTy (call_list_dK rfl) rfl fx.f_list boot_list (pa_cons (pe_fldK (K := K) rfl (pv 0) rfl) pa_nil))) (pss_cons (ps_set (i := 3) sc_Flow_search.nd rfl (.inl rfl) pe_int) (pss_cons (ps_while PassesOwn.never (pt_cmpR op_lt (pv 3) (pe_callB (call_lenK (K := K) rfl) rfl fx.f_len boot_len (pa_cons (pv 2) pa_nil)) (nomark _)) (pss_cons (ps_set (i := 1) sc_Flow_search.nd rfl (.inl rfl) (pe_ix (ix_listK (K := K) rfl) (pv 2) (pv 3) (fun _ _ => rfl))) (pss_cons (ps_aug (i := 3) sc_Flow_search.nd rfl (.inl rfl) pe_int ip_add) (pss_one (ps_for PassesOwn.never rfl (pi_range1 rfl fx.f_range (pa_cons (pe_callB (call_lenK (K := K) rfl) rfl fx.f_len boot_len (pa_cons (pe_fldK (K := K) rfl (pv 0) rfl) pa_nil)) pa_nil)) (pg_name (i := 4) sc_Flow_search.nd rfl (.inr rfl)) (pss_one (ps_if (PW.pt (pw_and (pt_val (pe_ix (ix_listK (K := K) rfl) (pe_ix (ix_listK (K := K) rfl) (pe_fldK (K := K) rfl (pv 0) rfl) (pv 1) (fun _ _ => rfl)) (pv 4) (fun _ _ => rfl))) (pw_and1 (pt_cmp (pc_dnotin (hu_of hr) (pv 4) (pe_fldK (K := K) rfl (pv 0) rfl)))))) (pss_cons (ps_dput (hu_of hr) (pe_fldK (K := K) rfl (pv 0) rfl) (pv 4) (pv 1) rfl) (pss_cons (ps_if (pt_cmpR op_gt (pe_ix (ix_listK (K := K) rfl) (pe_fldK (K := K) rfl (pv 0) rfl) (pv 4) (fun _ _ => rfl)) pe_int (nomark _)) (pss_one (ps_ret (pv 4))) pss_nil) (pss_cons (ps_setLc (i := 5) (own := [("y", 6)]) rfl sc_Flow_search.nd rfl rfl (sw_true rfl rfl rfl (by decide +kernel)) (pi_range1 rfl fx.f_range (pa_cons (pe_callB (call_lenK (K := K) rfl) rfl fx.f_len boot_len (pa_cons (pe_fldK (K := K) rfl (pv 0) rfl) pa_nil)) pa_nil)) (blkOk_by (N := N_Flow_search) (sc := defScope s_Flow_search) (by decide +kernel)) (fun _ _ _ _ _ => (pg_name (i := 6) sc_Flow_search.nd rfl (.inl rfl))) (fun _ _ _ _ _ => (pts_one (PW.pt (pw_and (pt_cmpR op_gt (pe_ix (ix_listK (K := K) rfl) (pe_ix (ix_listK (K := K) rfl) (pe_fldK (K := K) rfl (pv 0) rfl) (pv 6) (fun _ _ => rfl)) (pv 4) (fun _ _ => rfl)) pe_int (nomark _)) (pw_and1 (pt_cmp (pc_dnotin (hu_of hr) (pv 6) (pe_fldK (K := K) rfl (pv 0) rfl)))))))) (fun _ _ _ _ _ => (pv 6))) (pss_one (ps_for PassesOwn.never rfl (pi_listK (K := K) rfl (pv 5)) (pg_name (i := 6) sc_Flow_search.nd rfl (.inl rfl)) (pss_cons (ps_dput (hu_of hr) (pe_fldK (K := K) rfl (pv 0) rfl) (pv 6) (pv 4) rfl) (pss_one (ps_expr (pe_bm PySem.F.plainAttrs_list PySem.F.slot_list_append PySem.F.type_list_append mt_append (pv 2) (pa_cons (pv 6) pa_nil)))))))))) pss_nil))))))) (pss_one (ps_ret (pe_un un_neg pe_int)))))))), ?_⟩
  obtain ⟨x, qa0, la0, A, N, M, fits, fl, sup, room, rfl, hx, hb, hN, hM, hq⟩ := h
  have cf := fx.c_Flow
  refine ⟨_, rfl, x, _, _, _, _, rfl, hx, cf, fx.n_Flow_supply, rfl, _, N, rfl, .inl ⟨_, .inl (.inl hb.hs), (vec_len _ _).symm⟩, _, rfl, by omega, by omega, fun qa nqa => ?_⟩
  refine dc_it (walk_range (lo := 0) (n := N)) (fun j H' => H' qa = some (.dK (ikv (start j sup))) ∧ Same H H') ⟨upd_same, same_new nqa⟩ (fun _ _ _ _ => trivial) ?_ ?_
  · rintro j y H' H2 hj ⟨hD, s⟩ ⟨rfl, e⟩
    obtain rfl : y = .int (j : Nat) := e.trans (congrArg V.int (Int.zero_add _))
    have hlen := start_len j sup
    refine ⟨rfl, _, rfl, x, _, _, _, _, rfl, s _ _ hx, cf, fx.n_Flow_supply, rfl, _, rfl, A.sa, _, _, _, rfl, rfl, .inl (.inl (s _ _ hb.hs)), atI_vec _ hj, _, _, rfl, rfl, _, rfl, ite2 (fun z => ?_) fun z => ?_⟩
    · have z : 0 < sup j := by simpa using z
      refine ⟨_, rfl, _, rfl, _, Sum.inl (j : Int), rfl, hD, small1000 (by rw [ikv_len]; omega), ?_, same_upd s nqa⟩
      rw [upd_same, start_snoc, if_pos z]
      exact congrArg some (congrArg HO.dK (ikv_put (-1) (start_lt j sup)))
    · have z : ¬ 0 < sup j := by simpa using z
      refine ⟨?_, s⟩
      rw [start_snoc, if_neg z, List.append_nil]
      exact hD
  rintro H1 ⟨hD, s⟩
  have hx1 := s _ _ hx
  have x1 : qa ≠ x := ne_of hD hx1 fun z => by cases z
  refine ⟨_, rfl, x, _, _, _, rfl, hx1, cf, fx.n_Flow_reached, by show 6 < 1000; decide, fun la nla => ?_⟩
  have x2 : la ≠ x := fun e => by rw [e, upd_same] at nla; cases nla
  have qla : qa ≠ la := ne_of_none (upd_to hD x1) nla
  refine ⟨_, rfl, x, _, _, _, rfl, upd_at upd_same nla, cf, fx.n_Flow_filled, by show 6 < 1000; decide, ?_⟩
  have nla1 : H1 la = none := by rwa [upd_ne x2] at nla
  refine ⟨_, rfl, x, _, _, _, _, rfl, upd_same, cf, fx.n_Flow_reached, rfl, qa, _, rfl, upd_to (upd_at (upd_to hD x1) nla) x1, fun qu nqu => ?_⟩
  have x3 : qu ≠ x := fun e => by rw [e, upd_same] at nqu; cases nqu
  have nqu1 : H1 qu = none := by
    rw [upd_ne x3] at nqu
    have : qu ≠ la := fun e => by rw [e, upd_same] at nqu; cases nqu
    rwa [upd_ne this, upd_ne x3] at nqu
  have hxn : H x ≠ none := fun e => by rw [show H x = _ from hx] at e; cases e
  have S0 : SH K H (upd (upd (upd (upd H1 x (.ins (He.ga K "Flow") A.dx (flF A qa la0))) la (.dK [])) x (.ins (He.ga K "Flow") A.dx (flF A qa la))) qu (.lst (nI (ks (start N sup))))) x A qa la qu (start N sup) [] := by
    have nx : upd (upd (upd H1 x (.ins (He.ga K "Flow") A.dx (flF A qa la0))) la (.dK [])) x (.ins (He.ga K "Flow") A.dx (flF A qa la)) qu = none := nqu
    refine ⟨upd_at upd_same nx, upd_at (upd_to (upd_at (upd_to hD x1) nla) x1) nx, upd_at (upd_to upd_same x2) nx, upd_same, nqa, same_free s nla1, same_free s nqu1, qla, ?_, hxn⟩
    exact Sm.upd (Sm.at (Sm.upd (Sm.at (Sm.of s)) (same_free s nla1))) (same_free s nqu1)
  have eq0 : ((ikv (start N sup)).map fun kv => kV kv.1) = nI (ks (start N sup)) := ikv_keys _
  rw [eq0]
  have S0 : SH K H (upd (upd (upd (upd H1 x (.ins (He.ga K "Flow") A.dx (putF "reached" (.ref qa) (flF A qa0 la0)))) la (.dK [])) x (.ins (He.ga K "Flow") A.dx (putF "filled" (.ref la) (putF "reached" (.ref qa) (flF A qa0 la0))))) qu (.lst (nI (ks (start N sup))))) x A qa la qu (start N sup) [] := S0
  generalize upd (upd (upd (upd H1 x (.ins (He.ga K "Flow") A.dx (putF "reached" (.ref qa) (flF A qa0 la0)))) la (.dK [])) x (.ins (He.ga K "Flow") A.dx (putF "filled" (.ref la) (putF "reached" (.ref qa) (flF A qa0 la0))))) qu (.lst (nI (ks (start N sup)))) = H2 at S0
  refine ⟨fun m σ H' => ∃ (k : Nat) (R F : List (Nat × Int)) (o1 o4 o5 o6 : Option V), σ = [some (.ref x), o1, some (.ref qu), some (.int (k : Nat)), o4, o5, o6] ∧ SH K H H' x A qa la qu R F ∧ SI N M fits fl sup R F ∧ SD N M fits fl room R F k 0 ∧ k ≤ R.length ∧ m = N - k,
    ⟨_, 0, start N sup, [], none, none, none, none, rfl, S0, SI.start, SD.start, Nat.zero_le _, rfl⟩, ?_⟩
  rintro m σ H3 ⟨k, R, F, o1, o4, o5, o6, rfl, S3, I3, D3, hk, rfl⟩
  have rl := I3.len
  refine ⟨_, rfl, _, rfl, _, R.length, rfl, .inl ⟨_, .inl (.inl S3.hu), by rw [List.length_map, List.length_map]⟩, _, _, rfl, rfl, _, rfl, ite2 (fun z => ?_) fun z => ?_⟩
  · have z : k < R.length := by
      have : ((k : Nat) : Int) < (R.length : Nat) := by simpa using z
      omega
    obtain ⟨e, he⟩ : ∃ e, R[k]? = some e := ⟨_, List.getElem?_eq_getElem z⟩
    have hxN : e.1 < N := I3.rN _ (List.mem_map.mpr ⟨e, List.mem_of_getElem? he, rfl⟩)
    have hat : atI (nI (ks R)) (k : Nat) = some (.int (e.1 : Nat)) := by
      unfold atI
      rw [List.length_map, List.length_map, ixN_nat z]
      show (nI (ks R))[k]? = _
      rw [List.getElem?_map, List.getElem?_map, he] <;> rfl
    refine ⟨fun σ' H' => ∃ (R F : List (Nat × Int)) (o1 o4 o5 o6 : Option V), σ' = [some (.ref x), o1, some (.ref qu), some (.int ((k + 1 : Nat) : Int)), o4, o5, o6] ∧ SH K H H' x A qa la qu R F ∧ SI N M fits fl sup R F ∧ SD N M fits fl room R F (k + 1) 0 ∧ k + 1 ≤ R.length,
      fun σ' H' ⟨R, F, o1, o4, o5, o6, a, b, c, d, g⟩ => ⟨N - (k + 1), by omega, k + 1, R, F, o1, o4, o5, o6, a, b, c, d, g, rfl⟩, ?_⟩
    refine ⟨_, rfl, _, rfl, qu, _, _, _, rfl, rfl, .inl (.inl S3.hu), hat, _, rfl, _, _, rfl, rfl, ?_⟩
    have b3 := S3.fb hx hb
    refine ⟨_, rfl, x, _, _, _, _, rfl, S3.ins, cf, fx.n_Flow_room, rfl, _, M, rfl, .inl ⟨_, .inl (.inl b3.hr), (vec_len _ _).symm⟩, _, rfl, by omega, by omega, ?_⟩
    refine for_range (n := M) (fun i σ H' => ∃ (R F : List (Nat × Int)) (o4 o5 o6 : Option V), σ = [some (.ref x), some (.int (e.1 : Nat)), some (.ref qu), some (.int ((k + 1 : Nat) : Int)), o4, o5, o6] ∧ SH K H H' x A qa la qu R F ∧ SI N M fits fl sup R F ∧ SD N M fits fl room R F k i ∧ R[k]? = some e)
      ⟨R, F, o4, o5, o6, rfl, S3, I3, D3, he⟩ ?_ ?_
    · rintro i σ H4 hi ⟨R, F, o4, o5, o6, rfl, S4, I4, D4, he⟩
      have b4 := S4.fb hx hb
      rw [Int.zero_add]
      obtain ⟨t, ht, htm, hta⟩ := b4.fr.get hxN
      have iin : ∀ {F : List (Nat × Int)}, valV (ikv F) (.inl (i : Int)) = (F.lookup i).map V.int := fun {F} => ikv_get i F
      refine ⟨_, rfl, x, _, _, _, _, rfl, S4.ins, cf, fx.n_Flow_fits, rfl, _, rfl, A.fa, _, _, _, rfl, rfl, .inl (.inl b4.hf), atI_rows ht, _, rfl, t, _, _, _, rfl, rfl, .inl (.inl hta), atI_vec _ hi, _, rfl, ?_⟩
      cases hfit : fits e.1 i with
      | false =>
        exact iteF (iteF ⟨R, F, _, o5, o6, rfl, S4, I4, D4.skip fun e2 h2 hf => (by rw [he] at h2; cases h2; rw [hfit] at hf; cases hf), he⟩)
      | true =>
      refine iteT ⟨_, rfl, _, rfl, x, _, _, _, _, rfl, S4.ins, cf, fx.n_Flow_filled, rfl, la, _, rfl, .inl ⟨_, Sum.inl (i : Int), .inl S4.hl, rfl, rfl⟩, _, rfl, ?_⟩
      by_cases hin : i ∈ ks F
      · obtain ⟨v, hv, ev⟩ := nl_get hin I4.fnd
        rw [iin, ev]
        exact iteF ⟨R, F, _, o5, o6, rfl, S4, I4, D4.skip fun _ _ _ => hin, he⟩
      rw [iin, nl_none hin]
      refine iteT ?_
      have lf := I4.lenF
      have rl := I4.len
      refine ⟨_, rfl, _, rfl, x, _, _, _, _, rfl, S4.ins, cf, fx.n_Flow_filled, rfl, _, rfl, la, _, rfl, .inl ⟨_, Sum.inl (i : Int), S4.hl, rfl, small1000 (by rw [ikv_len]; omega), rfl⟩, ?_⟩
      rw [ikv_put (e.1 : Nat) hin]
      have S5 := S4.fil (F ++ [(i, ((e.1 : Nat) : Int))])
      have I5 := I4.fill he hi hfit hin
      have hF5 : (i, ((e.1 : Nat) : Int)) ∈ F ++ [(i, ((e.1 : Nat) : Int))] := by simp
      generalize upd H4 la (.dK (ikv (F ++ [(i, ((e.1 : Nat) : Int))]))) = H5 at S5
      have b5 := S5.fb hx hb
      refine ⟨_, rfl, x, _, _, _, _, rfl, S5.ins, cf, fx.n_Flow_room, rfl, _, rfl, A.ra, _, _, _, rfl, rfl, .inl (.inl b5.hr), atI_vec _ hi, _, _, rfl, rfl, _, rfl, ite2 (fun z => ?_) fun z => ?_⟩
      · have z : 0 < room i := by simpa using z
        exact ⟨_, rfl, hq _ _ qa la R _ S5.sm S5.ins S5.hq S5.hl I5 (.inr ⟨i, rfl, z, List.mem_map.mpr ⟨_, hF5, rfl⟩⟩)⟩
      have z : room i ≤ 0 := by
        have : ¬ 0 < room i := by simpa using z
        omega
      refine ⟨_, rfl, x, _, _, _, _, rfl, S5.ins, cf, fx.n_Flow_supply, rfl, _, N, rfl, .inl ⟨_, .inl (.inl b5.hs), (vec_len _ _).symm⟩, _, rfl, by omega, by omega, fun D nD => ?_⟩
      have Dqu := Ne.symm (ne_of_none S5.hu nD)
      have nD0 := S5.free nD
      refine lc_it (walk_range (lo := 0) (n := N)) (fun j H' => H' D = some (.lst (nI ((List.range j).filter (pmore fl i R)))) ∧ SH K H H' x A qa la qu R (F ++ [(i, ((e.1 : Nat) : Int))])) ⟨upd_same, S5.new nD⟩ (fun _ _ _ _ => trivial) ?_ ?_
      · rintro j y H' H'' hj ⟨hD, S6⟩ ⟨rfl, e0⟩
        obtain rfl : y = .int (j : Nat) := e0.trans (congrArg V.int (Int.zero_add _))
        have b6 := S6.fb hx hb
        obtain ⟨t2, ht2, htm2, hta2⟩ := b6.tr.get hj
        have fl2 : ((List.range j).filter (pmore fl i R)).length ≤ j := Nat.le_trans (List.length_filter_le _ _) (by rw [List.length_range]; exact Nat.le_refl _)
        have sn : (List.range (j + 1)).filter (pmore fl i R) = (List.range j).filter (pmore fl i R) ++ (if pmore fl i R j = true then [j] else []) := by
          rw [List.range_succ, List.filter_append, List.filter_cons]
          rfl
        refine ⟨rfl, _, rfl, x, _, _, _, _, rfl, S6.ins, cf, fx.n_Flow_sent, rfl, _, rfl, A.ta, _, _, _, rfl, rfl, .inl (.inl b6.ht), atI_rows ht2, _, rfl, t2, _, _, _, rfl, rfl, .inl (.inl hta2), atI_vec _ hi, _, _, rfl, rfl, _, rfl, ite2 (fun z => ?_) fun z => ?_⟩
        · have z : 0 < fl j i := by simpa using z
          refine ⟨_, rfl, _, rfl, x, _, _, _, _, rfl, S6.ins, cf, fx.n_Flow_reached, rfl, qa, _, rfl, .inl ⟨_, Sum.inl (j : Int), .inl S6.hq, rfl, rfl⟩, _, rfl, ?_⟩
          rw [ikv_get]
          by_cases hin2 : j ∈ ks R
          · obtain ⟨v, hv, ev⟩ := nl_get hin2 I5.rnd
            rw [ev]
            have pm : ¬ pmore fl i R j = true := by
              unfold pmore
              simp [hin2]
            refine iteF ⟨?_, S6⟩
            rw [sn, if_neg pm, List.append_nil]
            exact hD
          · rw [nl_none hin2]
            have pm : pmore fl i R j = true := by
              unfold pmore
              simp [hin2, z]
            refine iteT ⟨_, rfl, _, hD, small1000 (by rw [List.length_map]; omega), ?_, S6.to hD nD0 Dqu⟩
            rw [upd_same, sn, if_pos pm]
            exact congrArg some (congrArg HO.lst (nI_snoc _ _).symm)
        · have z : ¬ 0 < fl j i := by simpa using z
          have pm : ¬ pmore fl i R j = true := by
            unfold pmore
            simp [z]
          refine iteF ⟨?_, S6⟩
          rw [sn, if_neg pm, List.append_nil]
          exact hD
      rintro H6 ⟨hD, S6⟩
      have hD : H6 D = some (.lst (nI (more N fl i R))) := hD
      refine ⟨_, rfl, D, rfl, ⟨_, .inl (.inl hD)⟩, for_list (xs := nI (more N fl i R)) (fun j σ H' => ∃ (o6 : Option V), σ = [some (.ref x), some (.int (e.1 : Nat)), some (.ref qu), some (.int ((k + 1 : Nat) : Int)), some (.int (i : Nat)), some (.ref D), o6] ∧ SH K H H' x A qa la qu (R ++ ((more N fl i R).take j).map fun y => (y, (i : Int))) (F ++ [(i, ((e.1 : Nat) : Int))]) ∧ H' D = some (.lst (nI (more N fl i R))))
        ⟨_, rfl, by rw [List.take_zero, List.map_nil, List.append_nil]; exact S6, hD⟩ ?_ ?_ ?_⟩
      · rintro j σ H' _ ⟨o6, rfl, _, h⟩
        exact .inl (.inl h)
      · rintro j y σ H7 hy ⟨o6, rfl, S7, hD7⟩
        rw [List.getElem?_map] at hy
        obtain ⟨y, hy9, rfl⟩ := Option.map_eq_some_iff.mp hy
        clear hy
        have hy := hy9
        have hjl : j < (more N fl i R).length := (List.getElem?_eq_some_iff.mp hy).1
        obtain ⟨m1, m2, m3⟩ := more_mem.mp (List.mem_of_getElem? hy)
        have hout : ¬ y ∈ ks (R ++ ((more N fl i R).take j).map fun y => (y, (i : Int))) := by
          rw [ks_more]
          intro m
          rcases List.mem_append.mp m with m | m
          · exact m3 m
          · have nd := (List.Sublist.nodup (List.take_sublist (j + 1) _) (more_nd (N := N) (f := fl) (i := i) (R := R)))
            rw [take_snoc hy] at nd
            exact (List.nodup_append.mp nd).2.2 _ m _ (by simp) rfl
        have I7 := I5.more (i := i) he hF5
        have l7 := I7.len
        rw [List.length_append, List.length_map] at l7
        refine ⟨_, rfl, _, rfl, x, _, _, _, _, rfl, S7.ins, cf, fx.n_Flow_reached, rfl, _, rfl, qa, _, rfl, .inl ⟨_, Sum.inl (y : Int), S7.hq, rfl, small1000 (by rw [ikv_len, List.length_append, List.length_map, List.length_take]; omega), rfl⟩, ?_⟩
        rw [ikv_put (i : Nat) hout]
        have qq : qu ≠ qa := ne_of S7.hu S7.hq fun z => by cases z
        have hu8 := upd_to (o := .dK (ikv ((R ++ ((more N fl i R).take j).map fun y => (y, (i : Int))) ++ [(y, (i : Int))]))) S7.hu qq
        refine ⟨_, rfl, .inl ⟨rfl, _, .inl (.inl hu8)⟩, _, rfl, qu, _, _, rfl, rfl, hu8, small1000 (by rw [List.length_map, List.length_map, List.length_append, List.length_map, List.length_take]; omega), ?_⟩
        have e9 : R ++ ((more N fl i R).take (j + 1)).map (fun y => (y, (i : Int))) = (R ++ ((more N fl i R).take j).map fun y => (y, (i : Int))) ++ [(y, (i : Int))] := by
          rw [take_snoc hy, List.map_append, List.append_assoc]
          rfl
        refine ⟨_, rfl, ?_, ?_⟩
        · rw [e9]
          have := S7.rea ((R ++ ((more N fl i R).take j).map fun y => (y, (i : Int))) ++ [(y, (i : Int))])
          have e8 : nI (ks ((R ++ ((more N fl i R).take j).map fun y => (y, (i : Int))) ++ [(y, (i : Int))])) = nI (ks (R ++ ((more N fl i R).take j).map fun y => (y, (i : Int)))) ++ [.int (y : Nat)] := by
            rw [show ks ((R ++ ((more N fl i R).take j).map fun y => (y, (i : Int))) ++ [(y, (i : Int))]) = ks (R ++ ((more N fl i R).take j).map fun y => (y, (i : Int))) ++ [y] from List.map_append]
            exact nI_snoc _ _
          rw [e8] at this
          exact this
        · exact upd_to (upd_to hD7 (ne_of hD7 S7.hq fun z => by cases z)) Dqu
      · rintro σ H7 ⟨o6, rfl, S7, _⟩
        rw [List.length_map, List.take_length] at S7
        exact ⟨_, _, _, _, o6, rfl, S7, I5.more he hF5, D4.more he z, by rw [List.getElem?_append_left (List.getElem?_eq_some_iff.mp he).1]; exact he⟩
    · rintro σ H4 ⟨R, F, o4, o5, o6, rfl, S4, I4, D4, he⟩
      exact ⟨R, F, _, o4, o5, o6, rfl, S4, I4, D4.next, (List.getElem?_eq_some_iff.mp he).1⟩
  · have z : ¬ k < R.length := by
      have : ¬ ((k : Nat) : Int) < (R.length : Nat) := by simpa using z
      omega
    have : k = R.length := by omega
    subst this
    exact ⟨_, rfl, hq _ _ qa la R F S3.sm S3.ins S3.hq S3.hl I3 (.inl ⟨rfl, D3⟩)⟩
end Km
end

section
set_option Elab.async false
set_option linter.all false
set_option maxRecDepth 100000
set_option maxHeartbeats 4000000
set_option pp.maxSteps 700
/-! Flow: fill. -/
namespace Km
open PySem PySem.Spec PyProof.Rows L2
variable {P : Program} {w : World} {K : PySem.W.Frag} {mg : Str → Option Value} {base : Heap}
theorem atI_last {α : Type} (xs : List α) (a : α) : atI (xs ++ [a]) (-1) = some a := by
  unfold atI ixN
  rw [if_neg (by decide), if_pos (by rw [List.length_append, List.length_singleton]; omega)]
  show (xs ++ [a])[(-1 + ((xs ++ [a]).length : Int)).toNat]? = some a
  have : (-1 + ((xs ++ [a]).length : Int)).toNat = xs.length := by rw [List.length_append, List.length_singleton]; omega
  rw [this, List.getElem?_append_right (Nat.le_refl _), Nat.sub_self]
  rfl
theorem cut_last (xs : List V) (a : V) : cutV (xs ++ [a]) none (some (-1)) = xs := by
  unfold cutV
  have e1 : HT.sIx (xs ++ [a]).length 0 none = 0 := rfl
  have e2 : HT.sIx (xs ++ [a]).length (xs ++ [a]).length (some (-1)) = xs.length := by
    rw [List.length_append, List.length_singleton]
    show (if (-1 : Int) < 0 then ((-1 : Int) + ((xs.length + 1 : Nat) : Int)).toNat else min (-1 : Int).toNat (xs.length + 1)) = xs.length
    rw [if_pos (by decide)]
    omega
  rw [e1, e2, List.drop_zero, Nat.sub_zero, List.take_left]
theorem All2.unsnoc {α β : Type} {F : α → β → Prop} {as : List α} {ys : List β} {y : β} (h : All2 F as (ys ++ [y])) : ∃ xs x, as = xs ++ [x] ∧ All2 F xs ys ∧ F x y := by
  have hl := h.1
  rw [List.length_append, List.length_singleton] at hl
  have ne : as ≠ [] := fun e => by rw [e] at hl; simp at hl
  have e := (List.dropLast_concat_getLast ne).symm
  generalize as.dropLast = xs at e
  generalize as.getLast ne = x at e
  subst e
  rw [List.length_append, List.length_singleton] at hl
  have hl : xs.length = ys.length := by omega
  refine ⟨xs, x, rfl, ⟨hl, fun i a b ha hb => h.2 i a b ?_ ?_⟩, h.2 xs.length x y ?_ ?_⟩
  · rw [List.getElem?_append_left (List.getElem?_eq_some_iff.mp ha).1]
    exact ha
  · rw [List.getElem?_append_left (List.getElem?_eq_some_iff.mp hb).1]
    exact hb
  · rw [List.getElem?_append_right (Nat.le_refl _), Nat.sub_self]
    rfl
  · rw [hl, List.getElem?_append_right (Nat.le_refl _), Nat.sub_self]
    rfl
theorem refs_ne {as : List Addr} (h : as ≠ []) (m : Nat) (g : Nat → Int) : as.map V.ref ≠ vI m g := fun e => by
  have hl := congrArg List.length e
  rw [List.length_map, vec_len] at hl
  have h0 := congrArg (fun l => l[0]?) e
  have hp : 0 < as.length := List.length_pos_iff.mpr h
  have h0 : (as.map V.ref)[0]? = (vI m g)[0]? := h0
  rw [List.getElem?_map, List.getElem?_eq_getElem hp, vec_at _ (by omega)] at h0
  simp at h0
def SmG (x : Addr) (A : FlA) (H H' : Hp) : Prop := ∀ b o, b ≠ x → b ≠ A.sa → b ≠ A.ra → ¬ b ∈ A.tr → H b = some o → H' b = some o
theorem SmG.sm {x : Addr} {A : FlA} {H H1 H2 : Hp} (a : SmG x A H H1) (b : Sm x H1 H2) : SmG x A H H2 := fun c o h1 h2 h3 h4 e => b c o h1 (a c o h1 h2 h3 h4 e)
theorem SmG.smF {x : Addr} {A : FlA} {H H1 H2 : Hp} (a : SmG x A H H1) (b : SmF A H1 H2) : SmG x A H H2 := fun c o h1 h2 h3 h4 e => b c o h2 h3 h4 (a c o h1 h2 h3 h4 e)
theorem SmF.obj {H H' : Hp} {A : FlA} {N M : Nat} {fits : Nat → Nat → Bool} {f : Nat → Nat → Int} {sup room : Nat → Int} (s : SmF A H H') (hb : FwB H A N M fits f sup room) {b : Addr} {o : HO} (h : H b = some o) (n : ∀ xs, o ≠ .lst xs) : H' b = some o :=
  s b o (ne_of h hb.hs (n _)) (ne_of h hb.hr (n _)) (fun m => by
    obtain ⟨z, hz, e2⟩ := List.mem_iff_getElem.mp m
    have : H b = _ := hb.tr.2 z b (by rw [List.getElem?_eq_getElem hz, e2])
    rw [h] at this
    exact n _ (Option.some.inj this)) h
theorem SmF.refs {H H' : Hp} {A : FlA} {N M : Nat} {fits : Nat → Nat → Bool} {f : Nat → Nat → Int} {sup room : Nat → Int} (s : SmF A H H') (hb : FwB H A N M fits f sup room) {b : Addr} {as : List Addr} (h : H b = some (.lst (as.map V.ref))) (n : as ≠ []) : H' b = some (.lst (as.map V.ref)) :=
  s b _ (fun e => refs_ne n N sup (by rw [e, hb.hs] at h; injection h with h; injection h with h; exact h.symm)) (fun e => refs_ne n M room (by rw [e, hb.hr] at h; injection h with h; injection h with h; exact h.symm)) (fun m => by
    obtain ⟨z, hz, e2⟩ := List.mem_iff_getElem.mp m
    have : H b = _ := hb.tr.2 z b (by rw [List.getElem?_eq_getElem hz, e2])
    rw [h] at this
    injection this with this
    injection this with this
    exact refs_ne n M (f z) this) h
theorem way_in {N M : Nat} {fits : Nat → Nat → Bool} {f : Nat → Nat → Int} {sup : Nat → Int} {fi : Nat → Nat} {re : Nat → Int} {inF inR : Nat → Prop} {rk : Nat → Nat} (T : Mt.Tree N M fits f sup fi re inF inR rk) : ∀ {i : Int} {w : List (Nat × Nat)}, Mt.Way fi re i w → ∀ n : Nat, i = (n : Int) → inF n → ∀ p ∈ w, inF p.2 ∧ inR p.1 ∧ p.1 = fi p.2 := by
  intro i w h
  induction h with
  | nil h => intro n e; omega
  | @cons i w h ih =>
    intro n e hn p hp
    have e' : i = n := by omega
    subst e'
    obtain ⟨f1, f2, f3⟩ := T.filled i hn
    rcases List.mem_cons.mp hp with rfl | hp
    · exact ⟨hn, f2, rfl⟩
    · obtain ⟨g1, g2⟩ := T.reached (fi i) f2
      rcases g2 with ⟨g2, g3⟩ | ⟨j, g2, g3, g4, g5⟩
      · rw [Mt.way_nil h (by omega)] at hp
        cases hp
      · exact ih j g2 g3 p hp
def FLo (K : PySem.W.Frag) (H0 : Hp) (x : Addr) (A : FlA) (N M : Nat) (fits : Nat → Nat → Bool) (S Rm : Nat → Int) (σ : L2.St) (H : Hp) (t : Int) : Prop :=
  ∃ (v : Int) (qa la : Addr) (R F : List (Nat × Int)) (f : Nat → Nat → Int) (sup room : Nat → Int) (o2 o3 o4 o5 : Option V), σ = [some (.ref x), some (.int v), o2, o3, o4, o5] ∧ SmG x A H0 H ∧ FwI K H x A qa la ∧ H qa = some (.dK (ikv R)) ∧ H la = some (.dK (ikv F)) ∧
    FwB H A N M fits f sup room ∧ Mt.FI N M fits S Rm f sup room ∧ SI N M fits f sup R F ∧ ((v = -1 ∧ SD N M fits f room R F R.length 0) ∨ ∃ i : Nat, v = (i : Int) ∧ 0 < room i ∧ i ∈ ks F) ∧ t = Mt.sm N sup
def spFill (K : PySem.W.Frag) : Sp := fun vs H Q _ => ∃ (x qa la : Addr) (A : FlA) (N M : Nat) (fits : Nat → Nat → Bool) (S Rm : Nat → Int) (f : Nat → Nat → Int) (sup room : Nat → Int), vs = [.ref x] ∧ FwI K H x A qa la ∧ FwB H A N M fits f sup room ∧ A.Ap ∧ N ≤ 100 ∧ M ≤ 100 ∧ Mt.FI N M fits S Rm f sup room ∧
  ∀ H' qa' la' R f' sup' room', SmG x A H H' → FwI K H' x A qa' la' → H' qa' = some (.dK (ikv R)) → FwB H' A N M fits f' sup' room' → Mt.FI N M fits S Rm f' sup' room' → Mt.Closed N M fits f' sup' room' (lbOf R) → (ks R).Nodup → (∀ y ∈ ks R, y < N) → Q .non H'
abbrev N_Flow_fill : List PySem.Str := ["self", "place", "way", "many", "x", "i"]
theorem sc_Flow_fill : FnScope N_Flow_fill ["self"] (defScope s_Flow_fill) := ⟨rfl, rfl, rfl, by decide +kernel, rfl, by decide +kernel, by decide +kernel⟩
theorem ok_fill (fx : Fx K mg) : Met P w K mg base CX0 2 (He.ga K "Flow") "fill" ["self"] (spFill K) := by
  have met_Flow_search : Met P w K mg base CX0 1 (He.ga K "Flow") "search" ["self"] (spSearch K) := ok_search fx
  have met_Flow_way_to : Met P w K mg base CX0 1 (He.ga K "Flow") "way_to" ["self", "place"] (spWay K) := ok_way fx
  refine Met.of (p := ("Flow", some "fill")) (st := s_Flow_fill) fx.c_Flow fx.m_Flow_fill fx.fd_Flow_fill sc_Flow_fill (fun _ _ _ _ _ _ _ us hl => match us, hl with | [_], _ => rfl) (fun vs H Q E h => by obtain ⟨x, qa, la, A, N, M, fits, S, Rm, f, sup, room, rfl, _⟩ := h; rfl) fun f cdv A outer s H vs Q E hr h => ⟨_, PSs.nox (pss_cons (ps_set (i := 1) sc_Flow_fill.nd rfl (.inl rfl) (pe_mt0 met_Flow_search hr (by decide) pass0 (pv 0))) (pss_one (ps_while PassesOwn.never (pt_cmpR op_ge (pv 1) pe_int (nomark _)) (pss_cons (ps_set (i := 2) sc_Flow_fill.nd rfl (.inl rfl) (pe_mt met_Flow_way_to hr (by decide) pass0 (pv 0) (pa_cons (pv 1) pa_nil))) (pss_cons (ps_set (i := 3) sc_Flow_fill.nd rfl (.inl rfl) (pe_callB (call_min2 rfl) rfl fx.f_min boot_min (pa_cons (pe_ix (ix_listK (K := K) rfl) (pe_fldK (K := K) rfl (pv 0) rfl) (pv 1) (fun _ _ => rfl)) (pa_cons (pe_ix (ix_listK (K := K) rfl) (pe_fldK (K := K) rfl (pv 0) rfl) (pe_ix (ix_tupK (K := K) rfl) (pe_ix (ix_listK (K := K) rfl) (pv 2) (pe_un un_neg pe_int) (fun _ _ => rfl)) pe_int (fun _ _ => rfl)) (fun _ _ => rfl)) pa_nil)))) (pss_cons (ps_for PassesOwn.never rfl (pi_listK (K := K) rfl (pe_slice (sl_listK (K := K) rfl) (pv 2) po_none (po_some (pe_un un_neg pe_int)))) (pg_tupK (K := K) (n := 2) rfl rfl (pgs_cons (pg_name (i := 4) sc_Flow_fill.nd rfl (.inl rfl)) (pgs_cons (pg_name (i := 5) sc_Flow_fill.nd rfl (.inl rfl)) pgs_nil))) (pss_one (ps_set (i := 3) sc_Flow_fill.nd rfl (.inl rfl) (pe_callB (call_min2 rfl) rfl fx.f_min boot_min (pa_cons (pv 3) (pa_cons (pe_ix (ix_listK (K := K) rfl) (pe_ix (ix_listK (K := K) rfl) (pe_fldK (K := K) rfl (pv 0) rfl) (pv 4) (fun _ _ => rfl)) (pe_dget (hu_of hr) (pe_fldK (K := K) rfl (pv 0) rfl) (pv 4) (fun _ _ => rfl)) (fun _ _ => rfl)) pa_nil)))))) (pss_cons (ps_for PassesOwn.never rfl (pi_listK (K := K) rfl (pv 2)) (pg_tupK (K := K) (n := 2) rfl rfl (pgs_cons (pg_name (i := 4) sc_Flow_fill.nd rfl (.inl rfl)) (pgs_cons (pg_name (i := 5) sc_Flow_fill.nd rfl (.inl rfl)) pgs_nil))) (pss_cons (ps_augS (pe_ix (ix_listK (K := K) rfl) (pe_fldK (K := K) rfl (pv 0) rfl) (pv 4) (fun _ _ => rfl)) (pv 5) get_list (pv 3) ip_add set_list) (pss_one (ps_if (pt_cmpR op_ge (pe_dget (hu_of hr) (pe_fldK (K := K) rfl (pv 0) rfl) (pv 4) (fun _ _ => rfl)) pe_int (nomark _)) (pss_one (ps_augS (pe_ix (ix_listK (K := K) rfl) (pe_fldK (K := K) rfl (pv 0) rfl) (pv 4) (fun _ _ => rfl)) (pe_dget (hu_of hr) (pe_fldK (K := K) rfl (pv 0) rfl) (pv 4) (fun _ _ => rfl)) get_list (pv 3) ip_sub set_list)) pss_nil)))) (pss_cons (ps_augS (pe_fldK (K := K) rfl (pv 0) rfl) (pe_ix (ix_tupK (K := K) rfl) (pe_ix (ix_listK (K := K) rfl) (pv 2) (pe_un un_neg pe_int) (fun _ _ => rfl)) pe_int (fun _ _ => rfl)) get_list (pv 3) ip_sub set_list) (pss_cons (ps_augS (pe_fldK (K := K) rfl (pv 0) rfl) (pv 1) get_list (pv 3) ip_sub set_list) (pss_one (ps_set (i := 1) sc_Flow_fill.nd rfl (.inl rfl) (pe_mt0 met_Flow_search hr (by decide) pass0 (pv 0))))))))))))), ?_⟩
  obtain ⟨x, qa0, la0, A, N, M, fits, S, Rm, f0, sup0, room0, rfl, hx0, hb0, ap, hN, hM, FI0, hq⟩ := h
  have cf := fx.c_Flow
  refine ⟨_, rfl, x, _, _, rfl, hx0, rfl, x, qa0, la0, A, N, M, fits, f0, sup0, room0, rfl, hx0, hb0, hN, hM, fun v H1 qa la R F s1 hx hqa hla I1 hv => ?_⟩
  have b1 : FwB H1 A N M fits f0 sup0 room0 := hb0.keep fun b xs e => s1 b _ (ne_of e (show H x = _ from hx0) fun z => by cases z) e
  refine ⟨fun m σ H' => ∃ t, FLo K H x A N M fits S Rm σ H' t ∧ m = t.toNat, ⟨_, _, ⟨v, qa, la, R, F, f0, sup0, room0, none, none, none, none, rfl, SmG.sm (fun _ _ _ _ _ _ e => e) s1, hx, hqa, hla, b1, FI0, I1, hv, rfl⟩, rfl⟩, ?_⟩
  clear hqa hla I1 hv hx s1 b1
  rintro m σ H1 ⟨t, ⟨v, qa, la, R, F, fl, sup, room, o2, o3, o4, o5, rfl, s1, hx, hqa, hla, b1, FI, I1, hv, rfl⟩, rfl⟩
  refine ⟨_, rfl, _, _, rfl, rfl, _, rfl, ite2 (fun z => ?_) fun z => ?_⟩
  · have z : 0 ≤ v := by simpa using z
    rcases hv with ⟨e, _⟩ | ⟨i, rfl, hri, hin⟩
    · omega
    have T := I1.tree
    obtain ⟨w', hw⟩ := Mt.way_exists T _ i (Nat.lt_succ_self _) hin
    obtain ⟨WF, _⟩ := Mt.way_facts T hw i rfl hin
    have hiM : i < M := (T.filled i hin).1
    have win := way_in T hw i rfl hin
    obtain ⟨zl, hzl, hz1, hz2⟩ := WF.last
    have wl : w'.length ≤ N := by
      have h := len_sub (xs := w'.map (·.1)) (ys := List.range N) WF.nd fun x hx => by
        obtain ⟨e, he, rfl⟩ := List.mem_map.mp hx
        exact List.mem_range.mpr (WF.all e he).1
      rwa [List.length_map, List.length_range] at h
    obtain ⟨ini, rfl⟩ := List.getLast?_eq_some_iff.mp hzl
    have mid := WF.mid
    rw [List.dropLast_concat] at mid
    have hzN := (WF.all zl (by simp)).1
    refine ⟨fun σ' H' => ∃ t, FLo K H x A N M fits S Rm σ' H' t ∧ 0 ≤ t ∧ t < Mt.sm N sup, fun σ' H' ⟨t, h1, h2, h3⟩ => ⟨t.toNat, by omega, t, h1, rfl⟩, ?_⟩
    refine ⟨_, rfl, x, _, _, rfl, hx, rfl, _, rfl, x, qa, la, A, i, R, F, _, rfl, hx, hqa, hla, I1.ndk, hw, fun e he => ⟨(win e he).1, (win e he).2.1⟩, by omega, fun l H2 s2 hL => ?_⟩
    obtain ⟨as0, hl0, ha0⟩ := hL
    obtain ⟨as, az, rfl, has, haz⟩ := ha0.unsnoc
    rw [List.map_append] at hl0
    have hl0 : H2 l = some (.lst (as.map V.ref ++ [V.ref az])) := hl0
    have b2 := b1.same s2
    have hx2 : FwI K H2 x A qa la := s2 _ _ hx
    have hq2 := s2 _ _ hqa
    have re0 : ∀ y, y ∈ ks R → valV (ikv R) (.inl (y : Int)) = some (.int (reOf R y)) := fun y hy => by
      obtain ⟨u, hu, eu⟩ := nl_get hy I1.rnd
      rw [ikv_some I1.rnd hu]
      unfold reOf
      rw [eu] <;> rfl
    refine ⟨_, rfl, x, _, _, _, _, rfl, hx2, cf, fx.n_Flow_room, rfl, _, rfl, A.ra, _, _, _, rfl, rfl, .inl (.inl b2.hr), atI_vec _ hiM, ?_⟩
    refine ⟨_, rfl, x, _, _, _, _, rfl, hx2, cf, fx.n_Flow_supply, rfl, _, rfl, _, rfl, l, _, _, _, rfl, rfl, .inl (.inl hl0), atI_last _ _, az, _, _, _, rfl, rfl, .inl (.inl haz), rfl, A.sa, _, _, _, rfl, rfl, .inl (.inl b2.hs), atI_vec _ hzN, _, _, rfl, ?_⟩
    obtain ⟨mn0, hmn0⟩ : ∃ m, m = (if sup zl.1 < room i then sup zl.1 else room i) := ⟨_, rfl⟩
    rw [← hmn0]
    have k1 : 1 ≤ mn0 ∧ mn0 ≤ room i ∧ mn0 ≤ sup zl.1 := by
      rw [hmn0]
      split <;> omega
    refine ⟨_, rfl, _, rfl, _, rfl, l, _, rfl, .inl (.inl hl0), fun p np => ?_⟩
    rw [cut_last]
    have s3 := same_new (o := .lst (as.map V.ref)) np
    refine ⟨p, rfl, ⟨_, .inl (.inl upd_same)⟩, ?_⟩
    have hl3 := s3 _ _ hl0
    have hp3 : upd H2 p (.lst (as.map V.ref)) p = some (.lst (as.map V.ref)) := upd_same
    have has3 := has.mono fun a e h => s3 _ _ h
    have haz3 := s3 _ _ haz
    have b3 := b2.same s3
    have hx3 : FwI K (upd H2 p (.lst (as.map V.ref))) x A qa la := s3 _ _ hx2
    have hq3 := s3 _ _ hq2
    have s3 := s2.trans s3
    generalize upd H2 p (.lst (as.map V.ref)) = H3 at hl3 hp3 has3 haz3 b3 hx3 hq3 s3
    refine for_list (xs := as.map V.ref) (fun j σ H' => H' = H3 ∧ ∃ (mn : Int) (o4 o5 : Option V), σ = [some (.ref x), some (.int (i : Nat)), some (.ref l), some (.int mn), o4, o5] ∧ 1 ≤ mn ∧ mn ≤ room i ∧ mn ≤ sup zl.1 ∧ ∀ q ∈ ini.take j, mn ≤ fl q.1 (reOf R q.1).toNat)
      ⟨rfl, mn0, _, _, rfl, k1.1, k1.2.1, k1.2.2, fun q h => (by cases h)⟩ ?_ ?_ ?_
    · rintro j σ H' _ ⟨rfl, _⟩
      exact .inl (.inl hp3)
    · rintro j y σ H' hy ⟨rfl, mn, o4, o5, rfl, c1, c2, c3, c4⟩
      rw [List.getElem?_map] at hy
      obtain ⟨a, ha, rfl⟩ := Option.map_eq_some_iff.mp hy
      obtain ⟨e, he, hta⟩ := has3.r ha
      have hew : e ∈ ini ++ [zl] := List.mem_append_left _ (List.mem_of_getElem? he)
      obtain ⟨w1, w2, w3⟩ := WF.all e hew
      obtain ⟨_, win2, _⟩ := win e hew
      obtain ⟨k, k1, k2, k3⟩ := mid e (List.mem_of_getElem? he)
      obtain ⟨t, ht, htm, htt⟩ := b3.tr.get w1
      have hre := re0 e.1 win2
      rw [k1] at hre
      refine ⟨a, _, rfl, .inl (.inl hta), rfl, _, _, rfl, _, _, rfl, rfl, ?_⟩
      refine ⟨_, rfl, _, rfl, x, _, _, _, _, rfl, hx3, cf, fx.n_Flow_sent, rfl, _, rfl, A.ta, _, _, _, rfl, rfl, .inl (.inl b3.ht), atI_rows ht, ?_⟩
      refine ⟨_, rfl, x, _, _, _, _, rfl, hx3, cf, fx.n_Flow_reached, rfl, _, rfl, qa, _, rfl, .inl ⟨_, Sum.inl (e.1 : Int), .inl hq3, rfl, hre.symm⟩, t, _, _, _, rfl, rfl, .inl (.inl htt), atI_vec _ k2, _, _, rfl, ?_⟩
      refine ⟨rfl, _, _, _, rfl, ?_, ?_, ?_, fun q hq => ?_⟩
      · split <;> omega
      · split <;> omega
      · split <;> omega
      · rw [take_snoc he] at hq
        rcases List.mem_append.mp hq with hq | hq
        · have := c4 q hq
          split <;> omega
        · rw [List.mem_singleton.mp hq, k1, Int.toNat_natCast]
          split <;> omega
    rintro σ H' ⟨rfl, mn, o4, o5, rfl, c1, c2, c3, c4⟩
    rw [List.length_map, has3.1, List.take_length] at c4
    clear hmn0 k1
    refine ⟨_, rfl, l, rfl, ⟨_, .inl (.inl hl3)⟩, ?_⟩
    have hall : All2 (fun a p => H' a = some (.tup [.int (p.1 : Nat), .int (p.2 : Nat)])) (as ++ [az]) (ini ++ [zl]) := has3.snoc haz3
    have hl9 : H' l = some (.lst ((as ++ [az]).map V.ref)) := by rw [List.map_append]; exact hl3
    refine for_list (xs := (as ++ [az]).map V.ref) (fun j σ H4 => SmF A H' H4 ∧ FwB H4 A N M fits (Mt.aug (reOf R) mn ((ini ++ [zl]).take j) fl) sup room ∧ ∃ (o4 o5 : Option V), σ = [some (.ref x), some (.int (i : Nat)), some (.ref l), some (.int mn), o4, o5])
      ⟨SmF.refl _ _, b3, _, _, rfl⟩ ?_ ?_ ?_
    · rintro j σ H4 _ ⟨s4, _⟩
      exact .inl (.inl (s4.refs b3 hl9 (by simp)))
    · rintro j y σ H4 hy ⟨s4, b4, o4, o5, rfl⟩
      rw [List.getElem?_map] at hy
      obtain ⟨a, ha, rfl⟩ := Option.map_eq_some_iff.mp hy
      obtain ⟨e, he, hta⟩ := hall.r ha
      have hew : e ∈ ini ++ [zl] := List.mem_of_getElem? he
      obtain ⟨w1, w2, w3⟩ := WF.all e hew
      obtain ⟨_, win2, _⟩ := win e hew
      have hre := re0 e.1 win2
      obtain ⟨t, ht, htm, htt⟩ := b4.tr.get w1
      have hx4 : FwI K H4 x A qa la := s4.obj b3 hx3 fun xs z => by cases z
      refine ⟨a, _, rfl, .inl (.inl (s4.obj b3 hta fun xs z => by cases z)), rfl, _, _, rfl, _, _, rfl, rfl, ?_⟩
      refine ⟨_, rfl, x, _, _, _, _, rfl, hx4, cf, fx.n_Flow_sent, rfl, _, rfl, A.ta, _, _, _, rfl, rfl, .inl (.inl b4.ht), atI_rows ht, _, rfl, t, _, _, _, rfl, rfl, .inl (.inl htt), atI_vec _ w2, _, rfl, _, _, rfl, rfl, t, _, _, e.2, rfl, rfl, htt, by rw [vec_len]; exact ixN_nat w2, ?_⟩
      have b5 := b4.sent ap ht (i := e.2) mn
      have s5 : SmF A H' (upd H4 t (.lst ((vI M (Mt.aug (reOf R) mn ((ini ++ [zl]).take j) fl e.1)).set e.2 (.int (Mt.aug (reOf R) mn ((ini ++ [zl]).take j) fl e.1 e.2 + mn))))) := s4.tr htm
      have eaug : Mt.aug (reOf R) mn ((ini ++ [zl]).take (j + 1)) fl = Mt.aug1 (reOf R) mn (Mt.aug (reOf R) mn ((ini ++ [zl]).take j) fl) e := by
        rw [take_snoc he]
        unfold Mt.aug
        rw [List.foldl_append]
        rfl
      rw [eaug]
      generalize Mt.aug (reOf R) mn ((ini ++ [zl]).take j) fl = g at b4 b5 s5 htt
      show (fun H5 => _) (upd H4 t (.lst ((vI M (g e.1)).set e.2 (.int (g e.1 e.2 + mn)))))
      generalize upd H4 t (.lst ((vI M (g e.1)).set e.2 (.int (g e.1 e.2 + mn)))) = H5 at b5 s5
      have hx5 : FwI K H5 x A qa la := s5.obj b3 hx3 fun xs z => by cases z
      have hq5 := s5.obj b3 hq3 fun xs z => by cases z
      refine ⟨_, rfl, x, _, _, _, _, rfl, hx5, cf, fx.n_Flow_reached, rfl, _, rfl, qa, _, rfl, .inl ⟨_, Sum.inl (e.1 : Int), .inl hq5, rfl, hre.symm⟩, _, _, rfl, rfl, _, rfl, ite2 (fun z => ?_) fun z => ?_⟩
      · have z : 0 ≤ reOf R e.1 := by simpa using z
        obtain ⟨k, k1, k2⟩ : ∃ k : Nat, reOf R e.1 = (k : Int) ∧ k < M := by
          rcases List.mem_append.mp hew with h | h
          · obtain ⟨k, k1, k2, _⟩ := mid e h
            exact ⟨k, k1, k2⟩
          · rw [List.mem_singleton.mp h, hz1] at z
            omega
        obtain ⟨t5, ht5, htm5, htt5⟩ := b5.tr.get w1
        refine ⟨_, rfl, x, _, _, _, _, rfl, hx5, cf, fx.n_Flow_sent, rfl, _, rfl, A.ta, _, _, _, rfl, rfl, .inl (.inl b5.ht), atI_rows ht5, ?_⟩
        rw [k1] at hre
        refine ⟨_, rfl, x, _, _, _, _, rfl, hx5, cf, fx.n_Flow_reached, rfl, _, rfl, qa, _, rfl, .inl ⟨_, Sum.inl (e.1 : Int), .inl hq5, rfl, hre.symm⟩, t5, _, _, _, rfl, rfl, .inl (.inl htt5), atI_vec _ k2, _, rfl, _, _, rfl, rfl, t5, _, _, k, rfl, rfl, htt5, by rw [vec_len]; exact ixN_nat k2, ?_⟩
        have b6 := b5.sent ap ht5 (i := k) (-mn)
        rw [← Int.sub_eq_add_neg] at b6
        refine ⟨s5.tr htm5, ?_, _, _, rfl⟩
        unfold Mt.aug1
        rw [if_pos z, k1, Int.toNat_natCast]
        exact b6
      · have z : ¬ 0 ≤ reOf R e.1 := by simpa using z
        refine ⟨s5, ?_, _, _, rfl⟩
        unfold Mt.aug1
        rw [if_neg z]
        exact b5
    rintro σ H4 ⟨s4, b4, o4, o5, rfl⟩
    rw [List.length_map, hall.1, List.take_length] at b4
    have hx4 : FwI K H4 x A qa la := s4.obj b3 hx3 fun xs z => by cases z
    have hl4 : H4 l = some (.lst (as.map V.ref ++ [V.ref az])) := by
      rw [s4.refs b3 hl9 (by simp), List.map_append]
      rfl
    have haz4 := s4.obj b3 haz3 fun xs z => by cases z
    have FI2 := Mt.aug_ok FI hw WF hiM hzl (by omega) c2 c3 (by rw [List.dropLast_concat]; exact c4)
    refine ⟨_, rfl, x, _, _, _, _, rfl, hx4, cf, fx.n_Flow_supply, rfl, ?_⟩
    refine ⟨_, rfl, _, rfl, l, _, _, _, rfl, rfl, .inl (.inl hl4), atI_last _ _, az, _, _, _, rfl, rfl, .inl (.inl haz4), rfl, A.sa, _, _, _, rfl, rfl, .inl (.inl b4.hs), atI_vec _ hzN, _, rfl, _, _, rfl, rfl, A.sa, _, _, zl.1, rfl, rfl, b4.hs, by rw [vec_len]; exact ixN_nat hzN, ?_⟩
    have b5 := b4.supl ap zl.1 (-mn)
    rw [← Int.sub_eq_add_neg] at b5
    have s5 : SmF A H' (upd H4 A.sa (.lst ((vI N sup).set zl.1 (.int (sup zl.1 - mn))))) := s4.sa
    show (fun H5 => _) (upd H4 A.sa (.lst ((vI N sup).set zl.1 (.int (sup zl.1 - mn)))))
    generalize upd H4 A.sa (.lst ((vI N sup).set zl.1 (.int (sup zl.1 - mn)))) = H5 at b5 s5
    have hx5 : FwI K H5 x A qa la := s5.obj b3 hx3 fun xs z => by cases z
    refine ⟨_, rfl, x, _, _, _, _, rfl, hx5, cf, fx.n_Flow_room, rfl, _, rfl, A.ra, _, _, _, rfl, rfl, .inl (.inl b5.hr), atI_vec _ hiM, _, rfl, _, _, rfl, rfl, A.ra, _, _, i, rfl, rfl, b5.hr, by rw [vec_len]; exact ixN_nat hiM, ?_⟩
    have b6 := b5.roo ap i (-mn)
    rw [← Int.sub_eq_add_neg] at b6
    have s6 : SmF A H' (upd H5 A.ra (.lst ((vI M room).set i (.int (room i - mn))))) := s5.ra
    show (fun H5 => _) (upd H5 A.ra (.lst ((vI M room).set i (.int (room i - mn)))))
    generalize upd H5 A.ra (.lst ((vI M room).set i (.int (room i - mn)))) = H6 at b6 s6
    have hx6 : FwI K H6 x A qa la := s6.obj b3 hx3 fun xs z => by cases z
    refine ⟨_, rfl, x, _, _, rfl, hx6, rfl, x, qa, la, A, N, M, fits, _, _, _, rfl, hx6, b6, hN, hM, fun v H7 qa' la' R' F' s7 hx7 hq7 hl7 I7 hv7 => ?_⟩
    have sum := Mt.up1_sum (n := N) (g := sup) (d := -mn) hzN
    refine ⟨_, ⟨v, qa', la', R', F', _, _, _, _, _, _, _, rfl, (SmG.smF (SmG.sm s1 (Sm.of s3)) s6).sm s7, hx7, hq7, hl7, ?_, FI2, I7, hv7, rfl⟩, ?_, ?_⟩
    · exact b6.keep fun b xs e => s7 b _ (ne_of e (show H6 x = _ from hx6) fun z => by cases z) e
    · exact Mt.sm_nonneg FI2.s0
    · rw [sum]
      omega
  · have z : ¬ 0 ≤ v := by simpa using z
    rcases hv with ⟨_, d⟩ | ⟨i, rfl, _⟩
    · exact hq _ qa la R fl sup room s1 hx hqa b1 FI (I1.closed d) I1.rnd I1.rN
    · omega
end Km
end

section
set_option Elab.async false
set_option linter.all false
/-! What best_writer writes, in plain terms. -/
namespace Km
open PySem
/-! ### sums -/
theorem perm_sum {xs ys : List Int} (h : xs.Perm ys) : xs.sum = ys.sum := by
  induction h with
  | nil => rfl
  | cons a _ ih => rw [List.sum_cons, List.sum_cons, ih]
  | swap a b l => simp only [List.sum_cons]; omega
  | trans _ _ h1 h2 => exact h1.trans h2
theorem sum_map_add {α : Type} (l : List α) (f g : α → Int) : (l.map fun x => f x + g x).sum = (l.map f).sum + (l.map g).sum := by
  induction l with
  | nil => rfl
  | cons a r ih => simp only [List.map_cons, List.sum_cons, ih]; omega
theorem sm_range (n : Nat) (h : Nat → Int) : ((List.range n).map h).sum = Mt.sm n h := by
  induction n with
  | zero => rfl
  | succ n ih =>
    rw [List.range_succ, List.map_append, List.sum_append, ih]
    show _ + ([h n].sum) = Mt.sm n h + h n
    simp
theorem sm_list {α : Type} (d : α) (l : List α) (h : α → Int) : (l.map h).sum = Mt.sm l.length fun i => h (l.getD i d) := by
  rw [← sm_range]
  congr 1
  apply List.ext_getElem?
  intro i
  rw [List.getElem?_map, List.getElem?_map]
  by_cases hi : i < l.length
  · rw [List.getElem?_range hi, List.getElem?_eq_getElem hi]
    show some (h l[i]) = some (h (l.getD i d))
    rw [List.getD_eq_getElem?_getD, List.getElem?_eq_getElem hi]
    rfl
  · rw [List.getElem?_eq_none (by omega), List.getElem?_eq_none (by simp; omega)]
    rfl
theorem sum_filter {α : Type} (p : α → Bool) (l : List α) (h : α → Int) : ((l.filter p).map h).sum = (l.map fun a => if p a = true then h a else 0).sum := by
  induction l with
  | nil => rfl
  | cons a r ih =>
    rw [List.filter_cons]
    by_cases z : p a = true
    · rw [if_pos z, List.map_cons, List.sum_cons, List.map_cons, List.sum_cons, ih, if_pos z]
    · rw [if_neg z, List.map_cons, List.sum_cons, ih, if_neg z]
      omega
theorem perm_filter {α : Type} [DecidableEq α] {lot ys : List α} (nl : lot.Nodup) (ny : ys.Nodup) (h : ∀ t ∈ lot, t ∈ ys) : lot.Perm (ys.filter fun t => decide (t ∈ lot)) := by
  refine (List.perm_ext_iff_of_nodup nl (ny.filter _)).mpr fun a => ?_
  rw [List.mem_filter]
  simp only [decide_eq_true_eq]
  exact ⟨fun m => ⟨h a m, m⟩, fun m => m.2⟩
/-! ### entries -/
abbrev yat (ys : List Str) (x : Nat) : Str := ys.getD x Str.empty
abbrev fat (F : List (Int × List Str)) (i : Nat) : Int × List Str := F.getD i (0, [])
theorem yat_of {ys : List Str} {x : Nat} {t : Str} (h : ys[x]? = some t) : yat ys x = t := by
  show ys.getD x Str.empty = t
  rw [List.getD_eq_getElem?_getD, h]
  rfl
theorem yat_mem {ys : List Str} {x : Nat} (h : x < ys.length) : yat ys x ∈ ys := by
  have := List.getElem?_eq_getElem h
  rw [yat_of this]
  exact List.getElem_mem h
theorem fat_of {F : List (Int × List Str)} {i : Nat} {f : Int × List Str} (h : F[i]? = some f) : fat F i = f := by
  show F.getD i (0, []) = f
  rw [List.getD_eq_getElem?_getD, h]
  rfl
def blk (ys : List Str) (g : Nat → Nat → Int) (acc : List Str) (i : Nat) : Nat → List Ent
  | 0 => []
  | n + 1 => blk ys g acc i n ++ (if 0 < g n i then [(g n i, yat ys n, acc)] else [])
def entL (ys : List Str) (g : Nat → Nat → Int) (KS : List (Int × List Str)) (N : Nat) : Nat → List Ent
  | 0 => []
  | m + 1 => entL ys g KS N m ++ blk ys g (fat KS m).2 m N
def sumQ (q : Str × List Str → Bool) (L : List Ent) : Int := ((L.filter fun e => q e.2).map Prod.fst).sum
theorem sumQ_append (q : Str × List Str → Bool) (L L' : List Ent) : sumQ q (L ++ L') = sumQ q L + sumQ q L' := by
  unfold sumQ
  rw [List.filter_append, List.map_append, List.sum_append]
theorem sumQ_blk (q : Str × List Str → Bool) (ys : List Str) (g : Nat → Nat → Int) (acc : List Str) (i : Nat) : ∀ n, (∀ x, x < n → 0 ≤ g x i) → sumQ q (blk ys g acc i n) = Mt.sm n fun x => if q (yat ys x, acc) = true then g x i else 0
  | 0, _ => rfl
  | n + 1, h => by
    have ih := sumQ_blk q ys g acc i n fun x hx => h x (by omega)
    have h0 := h n (by omega)
    show sumQ q (blk ys g acc i n ++ _) = Mt.sm n _ + _
    rw [sumQ_append, ih]
    congr 1
    show _ = if q (yat ys n, acc) = true then g n i else 0
    by_cases z : 0 < g n i
    · rw [if_pos z]
      unfold sumQ
      rw [List.filter_cons]
      by_cases zq : q (yat ys n, acc) = true
      · rw [if_pos zq, if_pos zq]
        simp
      · rw [if_neg zq, if_neg zq]
        rfl
    · rw [if_neg z]
      have : g n i = 0 := by omega
      rw [this]
      simp [sumQ]
theorem sumQ_ents (q : Str × List Str → Bool) (ys : List Str) (g : Nat → Nat → Int) (KS : List (Int × List Str)) (N : Nat) : ∀ m, (∀ x i, x < N → i < m → 0 ≤ g x i) → sumQ q (entL ys g KS N m) = Mt.sm m fun i => Mt.sm N fun x => if q (yat ys x, (fat KS i).2) = true then g x i else 0
  | 0, _ => rfl
  | m + 1, h => by
    show sumQ q (entL ys g KS N m ++ blk ys g (fat KS m).2 m N) = Mt.sm m _ + _
    rw [sumQ_append, sumQ_ents q ys g KS N m (fun x i hx hi => h x i hx (by omega)), sumQ_blk q ys g _ m N fun x hx => h x m hx (by omega)]
theorem sumQ_all (L : List Ent) : sumQ (fun _ => true) L = esum L := by
  unfold sumQ esum
  rw [List.filter_eq_self.mpr fun _ _ => rfl]
/-- all divided by c -/
def dvE (c : Int) (e : Ent) : Ent := (e.1 / c, e.2)
theorem sumQ_div (q : Str × List Str → Bool) {c : Int} : ∀ L : List Ent, (∀ e ∈ L, c ∣ e.1) → sumQ q (L.map (dvE c)) * c = sumQ q L
  | [], _ => by
    show (0 : Int) * c = 0
    omega
  | e :: r, h => by
    have ih := sumQ_div q r fun x hx => h x (List.mem_cons_of_mem _ hx)
    have e1 : e.1 / c * c = e.1 := Int.ediv_mul_cancel (h e List.mem_cons_self)
    have s1 := sumQ_append q [dvE c e] (r.map (dvE c))
    have s2 := sumQ_append q [e] r
    show sumQ q ([dvE c e] ++ r.map (dvE c)) * c = sumQ q ([e] ++ r)
    rw [s1, s2, Int.add_mul, ih]
    congr 1
    unfold sumQ
    rw [List.filter_cons, List.filter_cons]
    show (List.map Prod.fst (if q e.2 = true then _ else _)).sum * c = _
    by_cases z : q e.2 = true
    · rw [if_pos z, if_pos z]
      show (([e.1 / c] : List Int)).sum * c = ([e.1] : List Int).sum
      simp [e1]
    · rw [if_neg z, if_neg z]
      show (0 : Int) * c = 0
      omega
/-! ### the greatest common divisor -/
def gcdL (L : List Ent) : Nat := L.foldl (fun c e => Nat.gcd c e.1.toNat) 0
theorem gcdL_snoc (L : List Ent) (e : Ent) : gcdL (L ++ [e]) = Nat.gcd (gcdL L) e.1.toNat := by
  unfold gcdL
  rw [List.foldl_append]
  rfl
theorem foldl_gcd : ∀ (L : List Ent) (c : Nat), L.foldl (fun c e => Nat.gcd c e.1.toNat) c = Nat.gcd c (gcdL L)
  | [], c => by
    show c = Nat.gcd c 0
    rw [Nat.gcd_zero_right]
  | e :: r, c => by
    show r.foldl _ (Nat.gcd c e.1.toNat) = Nat.gcd c (r.foldl _ (Nat.gcd 0 e.1.toNat))
    rw [foldl_gcd r, foldl_gcd r, Nat.gcd_zero_left, Nat.gcd_assoc]
theorem gcdL_cons (e : Ent) (r : List Ent) : gcdL (e :: r) = Nat.gcd e.1.toNat (gcdL r) := by
  show r.foldl _ (Nat.gcd 0 e.1.toNat) = _
  rw [foldl_gcd, Nat.gcd_zero_left]
theorem gcdL_dvd : ∀ {L : List Ent} {e : Ent}, e ∈ L → gcdL L ∣ e.1.toNat
  | u :: r, e, h => by
    rw [gcdL_cons]
    rcases List.mem_cons.mp h with rfl | h
    · exact Nat.gcd_dvd_left _ _
    · exact Nat.dvd_trans (Nat.gcd_dvd_right _ _) (gcdL_dvd h)
theorem gcdL_pos {L : List Ent} {e : Ent} (h : e ∈ L) (hp : 0 < e.1) : 0 < gcdL L := by
  have := gcdL_dvd h
  rcases Nat.eq_zero_or_pos (gcdL L) with z | z
  · rw [z] at this
    have := Nat.eq_zero_of_zero_dvd this
    omega
  · exact z
theorem gcdL_scale (c : Nat) (hc : 0 < c) : ∀ {L : List Ent}, (∀ e ∈ L, 0 ≤ e.1 ∧ c ∣ e.1.toNat) → gcdL (L.map (dvE (c : Int))) * c = gcdL L
  | [], _ => by
    show 0 * c = 0
    omega
  | e :: r, h => by
    have ih := gcdL_scale c hc fun x hx => h x (List.mem_cons_of_mem _ hx)
    obtain ⟨h0, k, hk⟩ := h e List.mem_cons_self
    have e1 : e.1 = ((c * k : Nat) : Int) := by rw [← hk]; omega
    have e2 : (dvE (c : Int) e).1.toNat = k := by
      show (e.1 / (c : Int)).toNat = k
      rw [e1, ← Int.natCast_ediv, Nat.mul_div_cancel_left _ hc]
      rfl
    rw [List.map_cons, gcdL_cons, gcdL_cons, e2, ← Nat.gcd_mul_right, ih, hk, Nat.mul_comm k c]
theorem gcdL_one {L : List Ent} (hp : ∀ e ∈ L, 1 ≤ e.1) (ne : L ≠ []) : gcdL (L.map (dvE (gcdL L : Int))) = 1 := by
  obtain ⟨e, he⟩ := List.exists_mem_of_ne_nil L ne
  have hc := gcdL_pos he (by have := hp e he; omega)
  have := gcdL_scale (gcdL L) hc (L := L) fun e he => ⟨by have := hp e he; omega, gcdL_dvd he⟩
  exact Nat.eq_of_mul_eq_mul_right hc (by omega)
end Km
end

section
set_option Elab.async false
set_option linter.all false
/-! best_writer's law, in plain terms. -/
namespace Km
open PySem PySem.Spec PyProof.Rows
structure BwIn (W : List (Str × Int)) (R : List (Str × List Str)) (F KS : List (Int × List Str)) (ys : List Str) (g0 u1 u2 : Int) : Prop where
  wok : WOk W
  fok : FOk F
  yp : ys.Perm (W.map Prod.fst)
  yso : sortedS ys = true
  kk : All2 (fun k f => k.1 = f.1 ∧ k.2.Perm f.2 ∧ sortedS k.2 = true) KS F
  g1 : 1 ≤ g0
  a1 : 1 ≤ u1
  a2 : 1 ≤ u2
  ew : wsum W = u2 * g0
  ef : fsum F = u1 * g0
def ftF (F : List (Int × List Str)) (R : List (Str × List Str)) (ys : List Str) (x i : Nat) : Bool := fitsR (fat F i).2 (rdo R (yat ys x))
def sS (W : List (Str × Int)) (ys : List Str) (u1 : Int) (x : Nat) : Int := wt W (yat ys x) * u1
def sR (F : List (Int × List Str)) (u2 : Int) (i : Nat) : Int := (fat F i).1 * u2
def lbL (ys lot : List Str) (x : Nat) : Bool := decide (yat ys x ∈ lot)
section
variable {W : List (Str × Int)} {R : List (Str × List Str)} {F KS : List (Int × List Str)} {ys : List Str} {g0 u1 u2 : Int} {lot : List Str}
theorem BwIn.nd (b : BwIn W R F KS ys g0 u1 u2) : ys.Nodup := b.yp.nodup_iff.mpr b.wok.nd
theorem BwIn.N (b : BwIn W R F KS ys g0 u1 u2) : ys.length = W.length := by rw [b.yp.length_eq, List.length_map]
theorem wsum_ys (b : BwIn W R F KS ys g0 u1 u2) : (ys.map (wt W)).sum = wsum W := by
  rw [perm_sum (b.yp.map (wt W)), List.map_map]
  unfold wsum
  congr 1
  refine List.map_congr_left fun e he => ?_
  show wt W e.1 = e.2
  unfold wt
  rw [lookup_some b.wok.nd (x := e.2) he]
  rfl
theorem sm_sS (b : BwIn W R F KS ys g0 u1 u2) : Mt.sm ys.length (sS W ys u1) = wsum W * u1 := by
  unfold sS
  rw [Mt.sm_mul, ← wsum_ys b, sm_list Str.empty]
theorem sm_sR : Mt.sm F.length (sR F u2) = fsum F * u2 := by
  unfold sR
  rw [Mt.sm_mul]
  unfold fsum
  rw [sm_list ((0, []) : Int × List Str)]
theorem isum_sm (b : BwIn W R F KS ys g0 u1 u2) (nl : lot.Nodup) (hl : ∀ t ∈ lot, t ∈ ys) : Mt.sm ys.length (fun x => if lbL ys lot x = true then sS W ys u1 x else 0) = isum W lot * u1 := by
  have e1 : isum W lot = (ys.map fun t => if decide (t ∈ lot) = true then wt W t else 0).sum := by
    unfold isum
    rw [perm_sum ((perm_filter nl b.nd hl).map (wt W)), sum_filter]
  rw [e1, sm_list Str.empty, ← Mt.sm_mul]
  refine Mt.sm_congr fun x _ => ?_
  unfold lbL sS
  split
  · rfl
  · omega
theorem hits_nb (hl : ∀ t ∈ lot, t ∈ ys) (i : Nat) : Mt.nb ys.length (ftF F R ys) (lbL ys lot) i = hits R lot (fat F i) := by
  apply Bool.eq_iff_iff.mpr
  rw [Mt.nb_true]
  unfold hits
  rw [List.any_eq_true]
  constructor
  · rintro ⟨x, hx, h1, h2⟩
    exact ⟨yat ys x, of_decide_eq_true h1, h2⟩
  · rintro ⟨t, ht, h⟩
    obtain ⟨x, hx⟩ := List.mem_iff_getElem?.mp (hl t ht)
    have hxl := (List.getElem?_eq_some_iff.mp hx).1
    refine ⟨x, hxl, ?_, ?_⟩
    · unfold lbL
      rw [yat_of hx]
      exact decide_eq_true ht
    · unfold ftF
      rw [yat_of hx]
      exact h
theorem metF_sm (hl : ∀ t ∈ lot, t ∈ ys) : Mt.sm F.length (fun i => if Mt.nb ys.length (ftF F R ys) (lbL ys lot) i = true then sR F u2 i else 0) = metF R F lot * u2 := by
  unfold metF
  rw [sum_filter, sm_list ((0, []) : Int × List Str), ← Mt.sm_mul]
  refine Mt.sm_congr fun i _ => ?_
  rw [hits_nb hl]
  unfold sR
  show _ = (if hits R lot (fat F i) = true then (fat F i).1 else 0) * u2
  split
  · rfl
  · omega
/-- a cut is the bound of a lot -/
theorem cut_bnum (b : BwIn W R F KS ys g0 u1 u2) (nl : lot.Nodup) (hl : ∀ t ∈ lot, t ∈ ys) : Mt.cut ys.length F.length (ftF F R ys) (sS W ys u1) (sR F u2) (lbL ys lot) * g0 = bnum W R F lot := by
  unfold Mt.cut
  have h1 := Mt.sm_ite ys.length (lbL ys lot) (sS W ys u1)
  rw [isum_sm b nl hl, sm_sS b] at h1
  rw [metF_sm hl]
  have h2 : Mt.sm ys.length (fun x => if lbL ys lot x = true then 0 else sS W ys u1 x) = (wsum W - isum W lot) * u1 := by rw [Int.sub_mul]; omega
  rw [h2]
  unfold bnum
  rw [b.ef, Int.add_mul, Int.mul_assoc, Int.mul_assoc, ← b.ew]
theorem cut_lb {N M : Nat} {fits : Nat → Nat → Bool} {S T : Nat → Int} {l1 l2 : Nat → Bool} (h : ∀ x, x < N → l1 x = l2 x) : Mt.cut N M fits S T l1 = Mt.cut N M fits S T l2 := by
  unfold Mt.cut
  congr 1
  · exact Mt.sm_congr fun x hx => by rw [h x hx]
  · refine Mt.sm_congr fun i _ => ?_
    have : Mt.nb N fits l1 i = Mt.nb N fits l2 i := by
      apply Bool.eq_iff_iff.mpr
      rw [Mt.nb_true, Mt.nb_true]
      exact ⟨fun ⟨x, a, c, d⟩ => ⟨x, a, by rw [← h x a]; exact c, d⟩, fun ⟨x, a, c, d⟩ => ⟨x, a, by rw [h x a]; exact c, d⟩⟩
    rw [this]
/-! ### blocks -/
theorem blk_mem {g : Nat → Nat → Int} {acc : List Str} {i : Nat} : ∀ {n : Nat} {e : Ent}, e ∈ blk ys g acc i n → ∃ x, x < n ∧ 0 < g x i ∧ e = (g x i, yat ys x, acc)
  | 0, _, h => by cases h
  | n + 1, e, h => by
    rcases List.mem_append.mp h with h | h
    · obtain ⟨x, a, c, d⟩ := blk_mem h
      exact ⟨x, by omega, c, d⟩
    · by_cases z : 0 < g n i
      · rw [if_pos z] at h
        exact ⟨n, Nat.lt_succ_self _, z, List.mem_singleton.mp h⟩
      · rw [if_neg z] at h
        cases h
theorem blk_len {g : Nat → Nat → Int} {acc : List Str} {i : Nat} : ∀ {n : Nat}, (blk ys g acc i n).length ≤ n
  | 0 => Nat.le_refl _
  | n + 1 => by
    show (blk ys g acc i n ++ _).length ≤ n + 1
    rw [List.length_append]
    have := blk_len (g := g) (acc := acc) (i := i) (n := n)
    split
    · rw [List.length_singleton]; omega
    · rw [List.length_nil]; omega
theorem blk_pw {g : Nat → Nat → Int} {acc : List Str} {i : Nat} (hp : ys.Pairwise ltS) : ∀ {n : Nat}, n ≤ ys.length → (blk ys g acc i n).Pairwise fun a b => ltS a.2.1 b.2.1
  | 0, _ => List.Pairwise.nil
  | n + 1, hn => by
    refine List.pairwise_append.mpr ⟨blk_pw hp (by omega), ?_, fun a ha b hb => ?_⟩
    · split <;> simp
    · obtain ⟨x, h1, h2, rfl⟩ := blk_mem ha
      split at hb
      · rw [List.mem_singleton.mp hb]
        have hx : ys[x]? = some (yat ys x) := by
          have h := List.getElem?_eq_getElem (show x < ys.length by omega)
          rw [h, yat_of h]
        have hy : ys[n]? = some (yat ys n) := by
          have h := List.getElem?_eq_getElem (show n < ys.length by omega)
          rw [h, yat_of h]
        exact sorted_lt_at hp h1 hx hy
      · cases hb
theorem entL_mem {g : Nat → Nat → Int} {N : Nat} : ∀ {m : Nat} {e : Ent}, e ∈ entL ys g KS N m → ∃ x i, x < N ∧ i < m ∧ 0 < g x i ∧ e = (g x i, yat ys x, (fat KS i).2)
  | 0, _, h => by cases h
  | m + 1, e, h => by
    rcases List.mem_append.mp h with h | h
    · obtain ⟨x, i, a, b, c, d⟩ := entL_mem h
      exact ⟨x, i, a, by omega, c, d⟩
    · obtain ⟨x, a, c, d⟩ := blk_mem h
      exact ⟨x, m, a, Nat.lt_succ_self _, c, d⟩
theorem blk_in {g : Nat → Nat → Int} {acc : List Str} {i x : Nat} (h : 0 < g x i) : ∀ {n : Nat}, x < n → (g x i, yat ys x, acc) ∈ blk ys g acc i n
  | 0, h => by omega
  | n + 1, hx => by
    show _ ∈ blk ys g acc i n ++ _
    by_cases q : x < n
    · exact List.mem_append_left _ (blk_in h q)
    · have : x = n := by omega
      subst this
      rw [if_pos h]
      exact List.mem_append_right _ List.mem_cons_self
theorem entL_in {g : Nat → Nat → Int} {N i : Nat} {e : Ent} (h : e ∈ blk ys g (fat KS i).2 i N) : ∀ {m : Nat}, i < m → e ∈ entL ys g KS N m
  | 0, h => by omega
  | m + 1, hi => by
    show _ ∈ entL ys g KS N m ++ _
    by_cases q : i < m
    · exact List.mem_append_left _ (entL_in h q)
    · have : i = m := by omega
      subst this
      exact List.mem_append_right _ h
theorem entL_len {g : Nat → Nat → Int} {N : Nat} : ∀ {m : Nat}, (entL ys g KS N m).length ≤ N * m
  | 0 => Nat.zero_le _
  | m + 1 => by
    show (entL ys g KS N m ++ _).length ≤ _
    rw [List.length_append, Nat.mul_succ]
    exact Nat.add_le_add entL_len blk_len
theorem entL_flat {g : Nat → Nat → Int} {N : Nat} (c : Int) : ∀ m, (entL ys g KS N m).map (dvE c) = (((List.range m).map fun i => (blk ys g (fat KS i).2 i N).map (dvE c))).flatten
  | 0 => rfl
  | m + 1 => by
    show (entL ys g KS N m ++ _).map (dvE c) = _
    rw [List.range_succ, List.map_append, List.map_append, List.flatten_append, entL_flat c m]
    simp
end
structure BW (W : List (Str × Int)) (R : List (Str × List Str)) (F : List (Int × List Str)) (ES : List Ent) (lot : List Str) : Prop where
  eok : EOk ES
  sub : ∀ x ∈ ES, x.2.1 ∈ W.map Prod.fst
  len : ES.length ≤ W.length * F.length
  one : gcdL ES = 1
  bks : ∃ Bs : List (List Ent), ES = Bs.flatten ∧ All2 (fun B f => (∀ e ∈ B, e.2.2.Perm f.2) ∧ B.Pairwise (fun a b => ltS a.2.1 b.2.1) ∧ esum B * fsum F = f.1 * esum ES) Bs F
  uns : ∀ e ∈ W, sumQ (fun r => decide (r.1 = e.1)) ES * wsum W = e.2 * esum ES
  fnd : metE R ES * bden W F = bnum W R F lot * esum ES
  lst : ∀ lot' : List Str, lot'.Nodup → (∀ t ∈ lot', t ∈ W.map Prod.fst) → metE R ES * bden W F ≤ bnum W R F lot' * esum ES
  lts : lot.Pairwise ltS
  los : ∀ t ∈ lot, t ∈ W.map Prod.fst
section
variable {W : List (Str × Int)} {R : List (Str × List Str)} {F KS : List (Int × List Str)} {ys : List Str} {g0 u1 u2 : Int} {lot : List Str}
theorem BwIn.bw (b : BwIn W R F KS ys g0 u1 u2) {g : Nat → Nat → Int} {lb : Nat → Bool} (fn : Mt.Fin ys.length F.length (ftF F R ys) (sS W ys u1) (sR F u2) g lb) (hlot : lot.Pairwise ltS) (hsub : ∀ t ∈ lot, t ∈ ys) (hlb : ∀ x, x < ys.length → lb x = lbL ys lot x) :
    BW W R F ((entL ys g KS ys.length F.length).map (dvE (gcdL (entL ys g KS ys.length F.length)))) lot := by
  have kl : KS.length = F.length := b.kk.1
  have kat : ∀ i, i < F.length → (fat KS i).1 = (fat F i).1 ∧ (fat KS i).2.Perm (fat F i).2 ∧ sortedS (fat KS i).2 = true := fun i hi => by
    have h1 := List.getElem?_eq_getElem (show i < KS.length by omega)
    have h2 := List.getElem?_eq_getElem hi
    rw [fat_of h1, fat_of h2]
    exact b.kk.2 i _ _ h1 h2
  have fmem : ∀ i, i < F.length → fat F i ∈ F := fun i hi => by
    rw [fat_of (List.getElem?_eq_getElem hi)]
    exact List.getElem_mem hi
  obtain ⟨EL, hEL⟩ : ∃ E, E = entL ys g KS ys.length F.length := ⟨_, rfl⟩
  rw [← hEL]
  have hg : ∀ x i, x < ys.length → i < F.length → 0 ≤ g x i := fn.g0
  have pos : ∀ e ∈ EL, 1 ≤ e.1 := fun e he => by
    rw [hEL] at he
    obtain ⟨x, i, h1, h2, h3, rfl⟩ := entL_mem he
    exact h3
  have q1 : ∀ q, sumQ q EL = Mt.sm F.length fun i => Mt.sm ys.length fun x => if q (yat ys x, (fat KS i).2) = true then g x i else 0 := fun q => by
    rw [hEL]
    exact sumQ_ents q ys g KS ys.length F.length hg
  have wp := wsum_pos b.wok
  have fp := fsum_pos b.fok
  have tot : esum EL = fsum F * u2 := by
    rw [← sumQ_all, q1, ← sm_sR]
    refine Mt.sm_congr fun i hi => ?_
    rw [← fn.col i hi]
    exact Mt.sm_congr fun x _ => if_pos rfl
  have totp : 0 < esum EL := by
    rw [tot]
    exact Int.mul_pos fp (by have := b.a2; omega)
  have ne : EL ≠ [] := fun e => by
    rw [e] at totp
    exact absurd totp (by decide)
  obtain ⟨e0, he0⟩ := List.exists_mem_of_ne_nil EL ne
  have Cp := gcdL_pos he0 (by have := pos e0 he0; omega)
  have one := gcdL_one pos ne
  have dvd : ∀ e ∈ EL, ((gcdL EL : Nat) : Int) ∣ e.1 := fun e he => by
    have h := gcdL_dvd he
    have := pos e he
    have h2 : ((gcdL EL : Nat) : Int) ∣ ((e.1.toNat : Nat) : Int) := Int.natCast_dvd_natCast.mpr h
    rwa [Int.toNat_of_nonneg (by omega)] at h2
  have dv := fun q => sumQ_div q EL dvd
  generalize hC : gcdL EL = C at *
  have Ci : (0 : Int) < (C : Int) := by omega
  have esC : esum (EL.map (dvE (C : Int))) * C = fsum F * u2 := by
    have := dv fun _ => true
    rw [sumQ_all, sumQ_all, tot] at this
    exact this
  have canc : ∀ {x y : Int}, x * C = y * C → x = y := fun h => Int.eq_of_mul_eq_mul_right (by omega) h
  have met : metE R (EL.map (dvE (C : Int))) * C = Mt.cut ys.length F.length (ftF F R ys) (sS W ys u1) (sR F u2) lb := by
    have h := dv fun r => fitsR r.2 (rdo R r.1)
    rw [q1] at h
    rw [← fn.found, Mt.sm_swap]
    refine Eq.trans (show _ = _ from h) (Mt.sm_congr fun i hi => Mt.sm_congr fun x _ => ?_)
    have e : fitsR (fat KS i).2 (rdo R (yat ys x)) = ftF F R ys x i := fitsR_congr (fun t => (kat i hi).2.1.mem_iff) fun t => Iff.rfl
    show (if fitsR (fat KS i).2 (rdo R (yat ys x)) = true then g x i else 0) = _
    rw [e]
  have memW : ∀ t, t ∈ ys ↔ t ∈ W.map Prod.fst := fun t => b.yp.mem_iff
  have cutE : Mt.cut ys.length F.length (ftF F R ys) (sS W ys u1) (sR F u2) lb * g0 = bnum W R F lot := by
    rw [cut_lb hlb]
    exact cut_bnum b (List.Pairwise.imp (S := (· ≠ ·)) (fun {a c} (h : ltS a c) (e : a = c) => ltS_irr c (by rw [e] at h; exact h)) hlot) hsub
  have bd : bden W F = (fsum F * u2) * g0 := by
    unfold bden
    rw [b.ew, Int.mul_comm, Int.mul_assoc]
  refine ⟨⟨⟨?_, ?_⟩, fun e he => ?_, fun e he => ?_⟩, fun e he => ?_, ?_, one, ?_, fun e he => ?_, ?_, fun lot' nl' sl' => ?_, hlot, fun t ht => (memW t).mp (hsub t ht)⟩
  · rw [List.length_map]
    exact List.length_pos_iff.mpr ne
  · rw [List.length_map, hEL]
    refine Nat.le_trans entL_len ?_
    have h1 := b.fok.len
    have h2 := b.wok.len
    rw [b.N]
    exact Nat.le_trans (Nat.mul_le_mul h2.2 h1.2) (by decide)
  · obtain ⟨u, hu, rfl⟩ := List.mem_map.mp he
    have hu1 := pos u hu
    obtain ⟨k, hk⟩ := dvd u hu
    have hd : u.1 / (C : Int) = k := by rw [hk]; exact Int.mul_ediv_cancel_left _ (by omega)
    have hk1 : 1 ≤ k := by
      have : 0 < (C : Int) * k := by omega
      have := Int.pos_of_mul_pos_right this Ci
      omega
    have hle : k ≤ u.1 := by
      rw [hk]
      have : (1 : Int) * k ≤ (C : Int) * k := Int.mul_le_mul_of_nonneg_right (by omega) (by omega)
      omega
    refine ⟨by show 1 ≤ u.1 / (C : Int); omega, ?_⟩
    show Bd 1000 (u.1 / (C : Int))
    rw [hd]
    rw [hEL] at hu
    obtain ⟨x, i, h1, h2, h3, rfl⟩ := entL_mem hu
    have hle : k ≤ g x i := hle
    have h4 : g x i ≤ sS W ys u1 x := by
      rw [← fn.row x h1]
      exact Mt.sm_at (fun j hj => hg x j h1 hj) h2
    have b1 := wt_bd b.wok (yat ys x)
    have b2 : Bd 145 u1 := (fsum_bd b.fok).le (by have := b.a1; omega) (by
      rw [b.ef]
      have h5 := b.g1
      have : u1 * 1 ≤ u1 * g0 := Int.mul_le_mul_of_nonneg_left h5 (by have := b.a1; omega)
      omega)
    have b3 : Bd (134 + 145) (sS W ys u1 x) := (bd40 b1.1 b1.2).mul b2
    exact (b3.le (by omega) (by omega)).mono (by decide)
  · obtain ⟨u, hu, rfl⟩ := List.mem_map.mp he
    rw [hEL] at hu
    obtain ⟨x, i, h1, h2, h3, rfl⟩ := entL_mem hu
    obtain ⟨k1, k2, k3⟩ := kat i h2
    exact ⟨k3, by show (fat KS i).2.length ≤ 40; rw [k2.length_eq]; exact b.fok.few _ (fmem i h2)⟩
  · obtain ⟨u, hu, rfl⟩ := List.mem_map.mp he
    rw [hEL] at hu
    obtain ⟨x, i, h1, h2, h3, rfl⟩ := entL_mem hu
    exact (memW _).mp (yat_mem h1)
  · rw [List.length_map, hEL, ← b.N]
    exact entL_len
  · refine ⟨((List.range F.length).map fun i => (blk ys g (fat KS i).2 i ys.length).map (dvE (C : Int))), by rw [hEL]; exact entL_flat _ _, ⟨by simp, fun i B f hB hf => ?_⟩⟩
    have hi := (List.getElem?_eq_some_iff.mp hf).1
    rw [List.getElem?_map, List.getElem?_range hi] at hB
    have hB : (blk ys g (fat KS i).2 i ys.length).map (dvE (C : Int)) = B := Option.some.inj hB
    subst hB
    have ef := fat_of hf
    obtain ⟨k1, k2, k3⟩ := kat i hi
    rw [ef] at k1 k2
    refine ⟨fun e he => ?_, ?_, ?_⟩
    · obtain ⟨u, hu, rfl⟩ := List.mem_map.mp he
      obtain ⟨x, _, _, rfl⟩ := blk_mem hu
      exact k2
    · exact List.pairwise_map.mpr ((blk_pw (sorted_lt b.yso b.nd) (Nat.le_refl _)).imp fun h => h)
    · have sub : ∀ e ∈ blk ys g (fat KS i).2 i ys.length, (C : Int) ∣ e.1 := fun e he => by
        obtain ⟨x, h1, h2, rfl⟩ := blk_mem he
        refine dvd _ ?_
        rw [hEL]
        exact entL_in (blk_in h2 h1) hi
      have h := sumQ_div (fun _ => true) _ sub
      rw [sumQ_blk _ ys g _ i ys.length fun x hx => hg x i hx hi, sumQ_all] at h
      have h2 : esum ((blk ys g (fat KS i).2 i ys.length).map (dvE (C : Int))) * C = f.1 * u2 := by
        rw [h]
        have := fn.col i hi
        unfold sR at this
        rw [ef] at this
        rw [← this]
        exact Mt.sm_congr fun x _ => if_pos rfl
      refine canc ?_
      rw [Int.mul_assoc, Int.mul_comm (fsum F), ← Int.mul_assoc, h2, Int.mul_assoc, Int.mul_comm u2, Int.mul_assoc, esC]
  · refine canc ?_
    have h := dv fun r => decide (r.1 = e.1)
    rw [q1] at h
    obtain ⟨x, hx⟩ := List.mem_iff_getElem?.mp ((memW e.1).mpr (List.mem_map.mpr ⟨e, he, rfl⟩))
    have hxl := (List.getElem?_eq_some_iff.mp hx).1
    have hw : wt W (yat ys x) = e.2 := by
      rw [yat_of hx]
      unfold wt
      rw [lookup_some b.wok.nd (x := e.2) he]
      rfl
    have hs : (Mt.sm F.length fun i => Mt.sm ys.length fun z => if decide ((yat ys z, (fat KS i).2).1 = e.1) = true then g z i else 0) = e.2 * u1 := by
      rw [← hw, show wt W (yat ys x) * u1 = sS W ys u1 x from rfl, ← fn.row x hxl]
      refine Mt.sm_congr fun i hi => ?_
      have : (Mt.sm ys.length fun z => if decide ((yat ys z, (fat KS i).2).1 = e.1) = true then g z i else 0) = Mt.sm ys.length fun z => if z = x then (0 : Int) + g x i else 0 := Mt.sm_congr fun z hz => by
        have hz2 := List.getElem?_eq_getElem hz
        by_cases q : z = x
        · subst q
          rw [if_pos (decide_eq_true (yat_of hx)), if_pos rfl]
          omega
        · rw [if_neg q, if_neg]
          intro hd
          have hd : yat ys z = e.1 := of_decide_eq_true hd
          rw [yat_of hz2] at hd
          exact q ((List.getElem?_inj hz b.nd).mp (by rw [hz2, hx, hd]))
      rw [this, Mt.sm_upd (g := fun _ => 0) hxl, Mt.sm_zero]
      omega
    rw [hs] at h
    have h5 : e.2 * esum (EL.map (dvE (C : Int))) * C = e.2 * (fsum F * u2) := by rw [Int.mul_assoc, esC]
    rw [Int.mul_right_comm, h, h5, b.ef, b.ew]
    simp only [Int.mul_assoc, Int.mul_comm, Int.mul_left_comm]
  · refine canc ?_
    rw [Int.mul_right_comm, met, Int.mul_assoc, esC, ← cutE, bd]
    simp only [Int.mul_assoc, Int.mul_comm, Int.mul_left_comm]
  · have h1 := fn.least (lbL ys lot')
    have h2 := cut_bnum b nl' fun t ht => (memW t).mpr (sl' t ht)
    refine Int.le_of_mul_le_mul_right (a := (C : Int)) ?_ Ci
    rw [Int.mul_right_comm, met, Int.mul_assoc (bnum W R F lot'), esC, ← h2, bd]
    have h3 : 0 ≤ fsum F * u2 * g0 := by
      have := Int.mul_pos fp (show 0 < u2 by have := b.a2; omega)
      have := Int.mul_pos this (show 0 < g0 by have := b.g1; omega)
      omega
    have h4 := Int.mul_le_mul_of_nonneg_right h1 h3
    refine Int.le_trans h4 (Int.le_of_eq ?_)
    simp only [Int.mul_assoc, Int.mul_comm, Int.mul_left_comm]
end
end Km
end

section
set_option Elab.async false
set_option linter.all false
set_option maxRecDepth 100000
set_option maxHeartbeats 4000000
set_option pp.maxSteps 700
/-! best_writer: from the flow on. -/
namespace Km
open PySem PySem.Spec PyProof.Rows L2
variable {P : Program} {w : World} {K : PySem.W.Frag} {mg : Str → Option Value} {base : Heap}
def KyR (H : Hp) (e : Addr × Addr) (k : Int × List Str) : Prop := H e.1 = some (.tup [.int k.1, .ref e.2]) ∧ Tt H e.2 k.2
theorem KyR.same {H H' : Hp} {e : Addr × Addr} {k : Int × List Str} (h : KyR H e k) (s : Same H H') : KyR H' e k := ⟨s _ _ h.1, s _ _ h.2⟩
def KF (k f : Int × List Str) : Prop := k.1 = f.1 ∧ k.2.Perm f.2 ∧ sortedS k.2 = true
structure KyL (H : Hp) (a : Addr) (L : List (Addr × Addr)) (KS : List (Int × List Str)) : Prop where
  l : H a = some (.lst (L.map fun e => V.ref e.1))
  r : All2 (KyR H) L KS
theorem KyL.same {H H' : Hp} {a : Addr} {L : List (Addr × Addr)} {KS : List (Int × List Str)} (h : KyL H a L KS) (s : Same H H') : KyL H' a L KS := ⟨s _ _ h.l, h.r.mono fun _ _ x => x.same s⟩
theorem KyL.at {H : Hp} {a : Addr} {L : List (Addr × Addr)} {KS : List (Int × List Str)} (h : KyL H a L KS) {j : Nat} {y : V} (hy : (L.map fun e => V.ref e.1)[j]? = some y) : ∃ e k, y = .ref e.1 ∧ L[j]? = some e ∧ KS[j]? = some k ∧ H e.1 = some (.tup [.int k.1, .ref e.2]) ∧ Tt H e.2 k.2 := by
  rw [List.getElem?_map] at hy
  obtain ⟨e, he, rfl⟩ := Option.map_eq_some_iff.mp hy
  obtain ⟨k, hk, g1, g2⟩ := h.r.r he
  exact ⟨e, k, rfl, he, hk, g1, g2⟩
def bwTail (K : PySem.W.Frag) : TS :=
  tSeq (tDrop (tMeth (He.ga K "Flow") "fill" (spFill K) [] E0 (tVar 12) tNil))
                (tSeq
                  (tAsg
                    (tThen
                      (tLc
                        (iList K
                          (tCB (rSorted K)
                            (tCons (tCB rListD (tCons (tFld K (tVar 12) "reached") tNil)) tNil)))
                        (gName 14) tYes (tOp (rIxT K) (tVar 3) (tVar 14))
                        [14])
                      (kTup K))
                    (gName 13))
                  (tSeq
                    (tDrop
                      (tMeth (He.ga K "Flow") "pour" (spPour K) [] E0 (tVar 12) tNil))
                    (tSeq (tAsg (tLst tNil) (gName 15))
                      (tSeq (tAsg (tC (V.int 0)) (gName 16))
                        (tSeq
                          (tFor
                            (iEnum
                              K
                              (tCons (tVar 4) tNil))
                            (gTup K 2
                              (gCons (gName 17) (gCons (gTup K 2 (gCons (gName 5) (gCons (gName 6) gNil))) gNil)))
                            (tFor
                              (iEnumT
                                K
                                (tCons (tVar 3) tNil))
                              (gTup K 2 (gCons (gName 14) (gCons (gName 10) gNil)))
                              (tIfS
                                (tTest
                                  (tOp (rI0 fun i j => V.bl (decide (j < i)))
                                    (tOp (rIxL K) (tOp (rIxL K) (tFld K (tVar 12) "sent") (tVar 14))
                                      (tVar 17))
                                    (tC (V.int 0))))
                                (tSeq
                                  (tDrop
                                    (tBM
                                      K
                                      "list" rAppend (tVar 15)
                                      (tCons
                                        (tTup
                                          (tCons
                                            (tOp (rIxL K)
                                              (tOp (rIxL K) (tFld K (tVar 12) "sent") (tVar 14))
                                              (tVar 17))
                                            (tCons (tVar 10) (tCons (tVar 6) tNil))))
                                        tNil)))
                                  (tAsg
                                    (tCall spGcd [] E0
                                      (tCons (tVar 16)
                                        (tCons
                                          (tOp (rIxL K)
                                            (tOp (rIxL K) (tFld K (tVar 12) "sent") (tVar 14)) (tVar 17))
                                          tNil)))
                                    (gName 16)))
                                tNext)))
                          (tRet
                            (tTup
                              (tCons
                                (tMake (He.ga K "Marking") (spMkI K) [] E0
                                  (tCons
                                    (tLc (iList K (tVar 15))
                                      (gTup K 3 (gCons (gName 18) (gCons (gName 10) (gCons (gName 6) gNil)))) tYes
                                      (tTup
                                        (tCons (tOp (rI CDivW fun i j => V.int (i / j)) (tVar 18) (tVar 16))
                                          (tCons (tVar 10) (tCons (tVar 6) tNil))))
                                      [18, 10, 6])
                                    tNil))
                                (tCons (tVar 13) tNil)))))))))
theorem BwIn.bdS {W : List (Str × Int)} {R : List (Str × List Str)} {F KS : List (Int × List Str)} {ys : List Str} {g0 u1 u2 : Int} (b : BwIn W R F KS ys g0 u1 u2) (x : Nat) : 0 ≤ sS W ys u1 x ∧ Bd 300 (sS W ys u1 x) := by
  have b1 := wt_bd b.wok (yat ys x)
  have b2 : Bd 145 u1 := (fsum_bd b.fok).le (by have := b.a1; omega) (by
    rw [b.ef]
    have h5 := b.g1
    have : u1 * 1 ≤ u1 * g0 := Int.mul_le_mul_of_nonneg_left h5 (by have := b.a1; omega)
    omega)
  have b3 : Bd (134 + 145) (sS W ys u1 x) := (bd40 b1.1 b1.2).mul b2
  exact ⟨Int.mul_nonneg b1.1 (by have := b.a1; omega), b3.mono (by decide)⟩
theorem BwIn.FI {W : List (Str × Int)} {R : List (Str × List Str)} {F KS : List (Int × List Str)} {ys : List Str} {g0 u1 u2 : Int} (b : BwIn W R F KS ys g0 u1 u2) (fits : Nat → Nat → Bool) : Mt.FI ys.length F.length fits (sS W ys u1) (sR F u2) zeroF (sS W ys u1) (sR F u2) := by
  refine ⟨fun x i _ _ => Int.le_refl _, fun x i _ _ h => absurd h (by unfold zeroF; omega), fun x _ => (b.bdS x).1, fun i hi => ?_, fun x _ => ?_, fun i _ => ?_⟩
  · have h := b.fok.pos (fat F i) (by rw [fat_of (List.getElem?_eq_getElem hi)]; exact List.getElem_mem hi)
    exact Int.mul_nonneg (by omega) (by have := b.a2; omega)
  · have : Mt.sm F.length (zeroF x) = 0 := Mt.sm_zero _
    omega
  · have : Mt.sm ys.length (fun x => zeroF x i) = 0 := Mt.sm_zero _
    omega
/-- the numbers that were reached, in order -/
theorem nats_of {ns : List Int} {L : List Nat} (p : ns.Perm (L.map fun n : Nat => (n : Int))) (nd : L.Nodup) (pw : ns.Pairwise (· ≤ ·)) : ∃ xs : List Nat, ns = xs.map (fun n : Nat => (n : Int)) ∧ xs.Perm L ∧ xs.Pairwise (· < ·) := by
  have e : ns = (ns.map Int.toNat).map (fun n : Nat => (n : Int)) := by
    rw [List.map_map]
    refine ((List.map_congr_left fun a ha => ?_).trans (List.map_id _)).symm
    obtain ⟨n, _, rfl⟩ := List.mem_map.mp (p.mem_iff.mp ha)
    exact congrArg _ (Int.toNat_natCast n)
  have hp : (ns.map Int.toNat).Perm L := by
    have h := p.map Int.toNat
    rw [List.map_map] at h
    have : L.map (Int.toNat ∘ fun n : Nat => (n : Int)) = L := (List.map_congr_left fun n _ => Int.toNat_natCast n).trans (List.map_id _)
    rwa [this] at h
  refine ⟨ns.map Int.toNat, e, hp, ?_⟩
  have nd2 : (ns.map Int.toNat).Nodup := hp.nodup_iff.mpr nd
  rw [e] at pw
  have pw2 := List.pairwise_map.mp pw
  exact (List.pairwise_and_iff.mpr ⟨pw2, nd2⟩).imp fun ⟨h1, h2⟩ => by omega
theorem bw_tail (fx : Fx K mg) {s c a ya D DF DS x qa la : Addr} {A : FlA} {W : List (Str × Int)} {R : List (Str × List Str)} {F KS : List (Int × List Str)} {L : List (Addr × Addr)} {ys : List Str} {g0 u1 u2 w7 un : Int} {H0 H4 H8 : Hp} {Q : VK}
    (m4 : Same H0 H4) (m8 : Same H4 H8) (hya : Tt H4 ya ys) (hK : KyL H4 D L KS) (hKF : All2 KF KS F) (B : BwIn W R F KS ys g0 u1 u2) (nx : H4 x = none) (nsa : H4 A.sa = none) (nra : H4 A.ra = none) (ntr : ∀ t ∈ A.tr, H4 t = none)
    (hx : FwI K H8 x A qa la) (hb : FwB H8 A ys.length F.length (ftF F R ys) zeroF (sS W ys u1) (sR F u2)) (ap : A.Ap)
    (hq : ∀ T H' m lo ES lot, Same H0 H' → H' T = some (.tup [.ref m, .ref lo]) → MkAt K H' m ES → Tt H' lo lot → BW W R F ES lot → Q (.ref T) H') :
    bwTail K { nx := fun _ H' => Q .non H', rt := Q } [some (.ref s), some (.ref c), some (.ref a), some (.ref ya), some (.ref D), none, none, some (.int w7), some (.int un), some (.ref DF), none, some (.ref DS), some (.ref x), none, none, none, none, none, none] H8 := by
  have cf := fx.c_Flow
  have wl := B.wok.len
  have fl := B.fok.len
  have yl := B.N
  refine ⟨_, rfl, x, _, _, rfl, hx, rfl, x, qa, la, A, ys.length, F.length, ftF F R ys, _, _, _, _, _, rfl, hx, hb, ap, by omega, by omega, B.FI _, fun H9 qa' la' Rq f' sup' room' s9 hx9 hq9 hb9 FI9 CL ndq ltq => ?_⟩
  have m9 : Same H4 H9 := fun b o e => s9 b o (fun z => by rw [z, nx] at e; cases e) (fun z => by rw [z, nsa] at e; cases e) (fun z => by rw [z, nra] at e; cases e) (fun z => by rw [ntr b z] at e; cases e) (m8 b o e)
  have rql : (ks Rq).length ≤ ys.length := by
    have h := len_sub (xs := ks Rq) (ys := List.range ys.length) ndq fun x hx => List.mem_range.mpr (ltq x hx)
    rwa [List.length_range] at h
  refine ⟨_, rfl, x, _, _, _, _, rfl, hx9, cf, fx.n_Flow_reached, rfl, qa', _, rfl, hq9, fun q1 nq1 => ?_⟩
  have eq1 : ((ikv Rq).map fun kv => kV kv.1) = ((ks Rq).map fun n : Nat => (n : Int)).map V.int := by
    rw [ikv_keys]
    simp only [List.map_map]
    rfl
  rw [eq1]
  have n9 := same_new (o := .lst (((ks Rq).map fun n : Nat => (n : Int)).map V.int)) nq1
  refine ⟨q1, _, rfl, .inl (.inl upd_same), by rw [List.length_map]; omega, fun ns q2 np npw nq2 => ?_⟩
  have n9 := same_upd (o := .lst (ns.map V.int)) n9 (same_free n9 nq2)
  obtain ⟨xs, rfl, xp, xlt⟩ := nats_of np ndq npw
  have hq2 : upd (upd H9 q1 (.lst (((ks Rq).map fun n : Nat => (n : Int)).map V.int))) q2 (.lst ((xs.map fun n : Nat => (n : Int)).map V.int)) q2 = some (.lst ((xs.map fun n : Nat => (n : Int)).map V.int)) := upd_same
  refine ⟨q2, rfl, ⟨_, .inl (.inl hq2)⟩, fun DL nDL => ?_⟩
  generalize upd (upd H9 q1 (.lst (((ks Rq).map fun n : Nat => (n : Int)).map V.int))) q2 (.lst ((xs.map fun n : Nat => (n : Int)).map V.int)) = G9 at n9 hq2 nDL
  have xsl : xs.length ≤ 24 := by rw [xp.length_eq]; omega
  have xsN : ∀ y ∈ xs, y < ys.length := fun y hy => ltq y (xp.mem_iff.mp hy)
  have yat9 : ∀ y, y < ys.length → atI (ys.map V.str) (y : Nat) = some (.str (yat ys y)) := fun y hy => by
    refine atI_nat (j := y) ?_
    rw [List.getElem?_map, List.getElem?_eq_getElem hy, yat_of (List.getElem?_eq_getElem hy)] <;> rfl
  have hya9 := n9 _ _ (m9 _ _ hya)
  refine lc_list (xs := (xs.map fun n : Nat => (n : Int)).map V.int) (fun j H' => H' = upd G9 DL (.lst (((xs.take j).map (yat ys)).map V.str))) rfl ?_ ?_ ?_
  · rintro j H' _ rfl
    exact .inl (.inl (upd_at hq2 nDL))
  · rintro j y H' hy rfl
    rw [List.getElem?_map, List.getElem?_map] at hy
    obtain ⟨z, hz, rfl⟩ := Option.map_eq_some_iff.mp hy
    obtain ⟨y, hy9, rfl⟩ := Option.map_eq_some_iff.mp hz
    have hjl : j < xs.length := (List.getElem?_eq_some_iff.mp hy9).1
    refine ⟨rfl, _, rfl, _, rfl, ya, _, _, _, rfl, rfl, .inl (.inl (upd_at hya9 nDL)), yat9 y (xsN y (List.mem_of_getElem? hy9)), _, upd_same, small1000 (by rw [List.length_map, List.length_map, List.length_take]; omega), ?_⟩
    rw [upd_upd, take_snoc hy9]
    simp
  rintro H' rfl
  rw [List.length_map, List.length_map, List.take_length]
  obtain ⟨lot, hlot⟩ : ∃ l, l = xs.map (yat ys) := ⟨_, rfl⟩
  rw [← hlot]
  have n10 := same_upd (o := .lst (lot.map V.str)) n9 (same_free n9 nDL)
  refine .inl ⟨DL, _, rfl, .inl (.inl upd_same), fun lo nlo => ?_⟩
  have n10 := same_upd (o := .tup (lot.map V.str)) n10 (same_free n10 nlo)
  have hlo : upd (upd G9 DL (.lst (lot.map V.str))) lo (.tup (lot.map V.str)) lo = some (.tup (lot.map V.str)) := upd_same
  generalize upd (upd G9 DL (.lst (lot.map V.str))) lo (.tup (lot.map V.str)) = H10 at n10 hlo
  have hx10 : FwI K H10 x A qa' la' := n10 _ _ hx9
  have hb10 := hb9.same n10
  have m10 := m9.trans n10
  -- the lot
  have ylt := sorted_lt B.yso B.nd
  have yg : ∀ y, y < ys.length → ys[y]? = some (yat ys y) := fun y hy => by
    have h := List.getElem?_eq_getElem hy
    rw [h, yat_of h]
  have lotlt : lot.Pairwise ltS := by
    rw [hlot]
    exact List.pairwise_map.mpr (xlt.imp_of_mem fun {y z} h1 h2 h3 => sorted_lt_at ylt h3 (yg y (xsN y h1)) (yg z (xsN z h2)))
  have lotin : ∀ t ∈ lot, t ∈ ys := fun t ht => by
    rw [hlot] at ht
    obtain ⟨y, hy, rfl⟩ := List.mem_map.mp ht
    exact yat_mem (xsN y hy)
  have lotlb : ∀ y, y < ys.length → lbOf Rq y = lbL ys lot y := fun y hy => by
    apply Bool.eq_iff_iff.mpr
    unfold lbOf lbL
    rw [decide_eq_true_iff, decide_eq_true_iff, ← xp.mem_iff, hlot]
    constructor
    · exact fun h => List.mem_map.mpr ⟨y, h, rfl⟩
    · intro h
      obtain ⟨z, hz, e⟩ := List.mem_map.mp h
      have this : z = y := (List.getElem?_inj (xsN z hz) B.nd).mp (show ys[z]? = ys[y]? by rw [yg z (xsN z hz), yg y hy, e])
      rw [← this]
      exact hz
  -- pour
  refine ⟨_, rfl, x, _, _, rfl, hx10, rfl, x, qa', la', A, ys.length, F.length, ftF F R ys, _, _, _, _, _, lbOf Rq, rfl, hx10, hb10, ap, by omega, by omega, FI9, CL, fun H11 g sg rg s11 hb11 PI => ?_⟩
  have hx11 : FwI K H11 x A qa' la' := s11.obj hb10 hx10 fun xs z => by cases z
  have hlo11 := s11.obj hb10 hlo fun xs z => by cases z
  have m11 : Same H4 H11 := fun b o e => s11 b o (fun z => by rw [z, nsa] at e; cases e) (fun z => by rw [z, nra] at e; cases e) (fun z => by rw [ntr b z] at e; cases e) (m10 b o e)
  have tot : Mt.sm ys.length (sS W ys u1) = Mt.sm F.length (sR F u2) := by
    rw [sm_sS B, sm_sR, B.ew, B.ef]
    simp only [Int.mul_assoc, Int.mul_comm, Int.mul_left_comm]
  have FN := Mt.pour_end FI9 CL PI tot
  have BWR := B.bw FN lotlt lotin lotlb
  have hya11 := m11 _ _ hya
  have hK11 := hK.same m11
  have hll : L.length = F.length := by rw [hK.r.1, hKF.1]
  refine ⟨Nat.zero_le _, fun DE nDE => ⟨_, rfl, D, L.map (fun e => V.ref e.1), rfl, .inl (.inl (upd_at hK11.l nDE)), ?_⟩⟩
  have kd : ∀ j, (fat KS j).2 = (fat KS j).2 := fun _ => rfl
  have nDE4 := same_free m11 nDE
  have hx12 := upd_at (o := .lst []) (show H11 x = _ from hx11) nDE
  have hb12 := hb11.same (same_new (o := .lst []) nDE)
  refine for_it (walk_enum (K := K) (a := D) (xs := L.map fun e => V.ref e.1)) (fun i σ H' => ∃ (o5 o6 o10 o14 o17 : Option V) (Lx : List (Addr × Addr)), σ = [some (.ref s), some (.ref c), some (.ref a), some (.ref ya), some (.ref D), o5, o6, some (.int w7), some (.int un), some (.ref DF), o10, some (.ref DS), some (.ref x), some (.ref lo), o14, some (.ref DE), some (.int (gcdL (entL ys g KS ys.length i) : Nat)), o17, none] ∧
    H' DE = some (.lst (Lx.map fun e => V.ref e.1)) ∧ All2 (EnR H') Lx (entL ys g KS ys.length i) ∧ Same H11 H') ⟨_, _, _, _, _, [], rfl, upd_same, All2.nil, same_new nDE⟩ ?_ ?_ ?_
  · rintro i σ H' hi ⟨o5, o6, o10, o14, o17, Lx, rfl, _, _, m⟩
    exact .inl (.inl (m _ _ hK11.l))
  · rintro i v σ H' H2 hi ⟨o5, o6, o10, o14, o17, Lx, rfl, hDE, hLx, m⟩ ⟨T, a1, y, rfl, nT, rfl, e1, e2⟩
    cases e1
    have e2 : (L.map fun e => V.ref e.1)[i]? = some y := e2
    obtain ⟨e, k, rfl, he, hk, g1, g2⟩ := (hK11.same m).at e2
    have hil : i < F.length := by
      have := (List.getElem?_eq_some_iff.mp he).1
      omega
    have ek : fat KS i = k := fat_of hk
    have mT := same_new (o := .tup [.int (i : Nat), .ref e.1]) nT
    have m' := m.trans mT
    refine ⟨T, _, rfl, .inl (.inl upd_same), rfl, _, _, rfl, _, _, rfl, ⟨e.1, _, rfl, .inl (.inl (mT _ _ g1)), rfl, _, _, rfl, _, _, rfl, rfl, rfl, ?_⟩⟩
    refine ⟨_, rfl, ya, ys.map V.str, rfl, .inl (.inl (m' _ _ hya11)), ?_⟩
    refine for_it (walk_enumT (K := K) (a := ya) (xs := ys.map V.str)) (fun j σ H'' => ∃ (o10 o14 : Option V) (Lx : List (Addr × Addr)), σ = [some (.ref s), some (.ref c), some (.ref a), some (.ref ya), some (.ref D), some (.int k.1), some (.ref e.2), some (.int w7), some (.int un), some (.ref DF), o10, some (.ref DS), some (.ref x), some (.ref lo), o14, some (.ref DE), some (.int (gcdL (entL ys g KS ys.length i ++ blk ys g k.2 i j) : Nat)), some (.int (i : Nat)), none] ∧
      H'' DE = some (.lst (Lx.map fun e => V.ref e.1)) ∧ All2 (EnR H'') Lx (entL ys g KS ys.length i ++ blk ys g k.2 i j) ∧ Same H11 H'' ∧ Tt H'' e.2 k.2) ⟨o10, o14, Lx, ?_, mT _ _ hDE, ?_, m', mT _ _ g2⟩ ?_ ?_ ?_
    · show _ = [some (.ref s), some (.ref c), some (.ref a), some (.ref ya), some (.ref D), some (.int k.1), some (.ref e.2), some (.int w7), some (.int un), some (.ref DF), o10, some (.ref DS), some (.ref x), some (.ref lo), o14, some (.ref DE), some (.int (gcdL (entL ys g KS ys.length i ++ []) : Nat)), some (.int (i : Nat)), none]
      rw [List.append_nil]
      rfl
    · show All2 _ _ (entL ys g KS ys.length i ++ [])
      rw [List.append_nil]
      exact hLx.mono fun _ _ r => r.same mT
    · rintro j σ H'' hj ⟨_, _, _, rfl, _, _, m2, _⟩
      exact .inl (.inl (m2 _ _ hya11))
    · rintro j v σ H3 H3' hj ⟨o10, o14, Lx, rfl, hDE, hLx, m3, ha3⟩ ⟨T2, a1, y, rfl, nT2, rfl, e1, e2⟩
      cases e1
      have e2 : (ys.map V.str)[j]? = some y := e2
      obtain ⟨t, ht, rfl⟩ := lt_map e2
      have hjl : j < ys.length := (List.getElem?_eq_some_iff.mp ht).1
      have mT2 := same_new (o := .tup [.int (j : Nat), .str t]) nT2
      have m3' := m3.trans mT2
      have hx3 : FwI K (upd H3 T2 (.tup [.int (j : Nat), .str t])) x A qa' la' := m3' _ _ hx11
      have hb3 := hb11.same m3'
      obtain ⟨tr, htr, htm, hta⟩ := hb3.tr.get hjl
      refine ⟨T2, _, rfl, .inl (.inl upd_same), rfl, _, _, rfl, _, _, rfl, rfl, ?_⟩
      refine ⟨_, rfl, x, _, _, _, _, rfl, hx3, cf, fx.n_Flow_sent, rfl, _, rfl, A.ta, _, _, _, rfl, rfl, .inl (.inl hb3.ht), atI_rows htr, _, rfl, tr, _, _, _, rfl, rfl, .inl (.inl hta), atI_vec _ hil, _, _, rfl, rfl, _, rfl, ite2 (fun z => ?_) fun z => ?_⟩
      · have z : 0 < g j i := by simpa using z
        have hDE3 := mT2 _ _ hDE
        refine ⟨_, rfl, .inl ⟨rfl, _, .inl (.inl hDE3)⟩, ?_⟩
        refine ⟨_, rfl, x, _, _, _, _, rfl, hx3, cf, fx.n_Flow_sent, rfl, _, rfl, A.ta, _, _, _, rfl, rfl, .inl (.inl hb3.ht), atI_rows htr, _, rfl, tr, _, _, _, rfl, rfl, .inl (.inl hta), atI_vec _ hil, _, rfl, _, rfl, by show 3 ≤ sizeLine; decide, fun T3 nT3 => ?_⟩
        have hll3 : Lx.length ≤ 600 := by
          rw [hLx.1, List.length_append]
          have h1 := entL_len (ys := ys) (KS := KS) (g := g) (N := ys.length) (m := i)
          have h2 := blk_len (ys := ys) (g := g) (acc := k.2) (i := i) (n := j)
          have h3 : ys.length * i ≤ 24 * 20 := Nat.mul_le_mul (by omega) (by omega)
          omega
        have mT3 := same_upd (o := .tup [.int (g j i), .str t, .ref e.2]) mT2 (same_free mT2 nT3)
        have hDE4 := mT3 _ _ hDE
        have m4' := m3.trans mT3
        have nDE11 : H11 DE = none := nDE
        have T3D : T3 ≠ DE := fun z => by rw [z, hDE3] at nT3; cases nT3
        refine ⟨DE, _, _, rfl, rfl, hDE4, small1000 (by rw [List.length_map]; omega), ?_⟩
        have m5 := same_upd (o := .lst (Lx.map (fun e => V.ref e.1) ++ [V.ref T3])) m4' nDE11
        have hb5 := hb11.same m5
        obtain ⟨tr5, htr5, htm5, hta5⟩ := hb5.tr.get hjl
        refine ⟨_, rfl, _, rfl, x, _, _, _, _, rfl, m5 _ _ hx11, cf, fx.n_Flow_sent, rfl, _, rfl, A.ta, _, _, _, rfl, rfl, .inl (.inl hb5.ht), atI_rows htr5, _, rfl, tr5, _, _, _, rfl, rfl, .inl (.inl hta5), atI_vec _ hil, ?_⟩
        have eb : blk ys g k.2 i (j + 1) = blk ys g k.2 i j ++ [(g j i, t, k.2)] := by
          show blk ys g k.2 i j ++ (if 0 < g j i then _ else _) = _
          rw [if_pos z, yat_of ht]
        rw [eb, ← List.append_assoc, gcdL_snoc]
        refine ⟨gcdL (entL ys g KS ys.length i ++ blk ys g k.2 i j), (g j i).toNat, ?_, ?_⟩
        · show [V.int _, V.int (g j i)] = _
          rw [Int.toNat_of_nonneg (by omega)]
        refine ⟨some (.str t), some (.int (j : Nat)), Lx ++ [(T3, e.2)], rfl, ?_, ?_, m5, ?_⟩
        · rw [upd_same, List.map_append]
          rfl
        · exact (hLx.mono fun e' x' h => ⟨upd_to (mT3 _ _ h.1) (ne_of h.1 hDE fun z => by cases z), upd_to (mT3 _ _ h.2) (ne_of (show H3 e'.2 = _ from h.2) hDE fun z => by cases z)⟩).snoc ⟨upd_to upd_same T3D, upd_to (mT3 _ _ ha3) (ne_of (show H3 e.2 = _ from ha3) hDE fun z => by cases z)⟩
        · exact upd_to (mT3 _ _ ha3) (ne_of (show H3 e.2 = _ from ha3) hDE fun z => by cases z)
      · have z : ¬ 0 < g j i := by simpa using z
        have eb : blk ys g k.2 i (j + 1) = blk ys g k.2 i j := by
          show blk ys g k.2 i j ++ (if 0 < g j i then _ else _) = _
          rw [if_neg z, List.append_nil]
        rw [eb]
        exact ⟨_, _, Lx, rfl, mT2 _ _ hDE, hLx.mono fun _ _ r => r.same mT2, m3', mT2 _ _ ha3⟩
    · rintro σ H3 ⟨o10, o14, Lx, rfl, hDE, hLx, m3, ha3⟩
      rw [List.length_map] at hLx
      rw [List.length_map]
      have eE : entL ys g KS ys.length (i + 1) = entL ys g KS ys.length i ++ blk ys g k.2 i ys.length := by
        show _ ++ blk ys g (fat KS i).2 i ys.length = _
        rw [ek]
      exact ⟨_, _, _, _, _, Lx, by rw [eE], hDE, by rw [eE]; exact hLx, m3⟩
  · rintro σ H12 ⟨o5, o6, o10, o14, o17, Lx, rfl, hDE, hLx, m⟩
    rw [List.length_map, hll] at hLx
    rw [List.length_map, hll]
    obtain ⟨EL, hEL⟩ : ∃ E, E = entL ys g KS ys.length F.length := ⟨_, rfl⟩
    rw [← hEL] at hLx BWR
    rw [← hEL]
    have eok := BWR.eok
    have elen := eok.len
    rw [List.length_map] at elen
    have m12 := m11.trans m
    have epos : ∀ e ∈ EL, 0 < e.1 ∧ Bd 300 e.1 := fun e he => by
      rw [hEL] at he
      obtain ⟨y, i, h1, h2, h3, rfl⟩ := entL_mem he
      have h4 : g y i ≤ sS W ys u1 y := by
        rw [← FN.row y h1]
        exact Mt.sm_at (fun j hj => FN.g0 y j h1 hj) h2
      have h5 := (B.bdS (W := W) y).2
      exact ⟨h3, h5.le (by show 0 ≤ g y i; omega) h4⟩
    refine ⟨_, rfl, DE, rfl, ⟨_, .inl (.inl hDE)⟩, fun D9 nD9 => ?_⟩
    have nD94 := same_free m12 nD9
    refine lc_list (xs := Lx.map fun e => V.ref e.1) (fun j H' => ∃ Ly : List (Addr × Addr), H' D9 = some (.lst (Ly.map fun e => V.ref e.1)) ∧ All2 (EnR H') Ly ((EL.take j).map (dvE (gcdL EL))) ∧ Same H12 H') ⟨[], upd_same, All2.nil, same_new nD9⟩ ?_ ?_ ?_
    · rintro j H' _ ⟨_, _, _, n⟩
      exact .inl (.inl (n _ _ hDE))
    · rintro j y H' hy ⟨Ly, hD9, hLy, n⟩
      rw [List.getElem?_map] at hy
      obtain ⟨e, he, rfl⟩ := Option.map_eq_some_iff.mp hy
      obtain ⟨u, hu, g1, g2⟩ := hLx.r he
      have hum := List.mem_of_getElem? hu
      have hjl : j < EL.length := (List.getElem?_eq_some_iff.mp hu).1
      obtain ⟨p1, p2⟩ := epos u hum
      have cp := gcdL_pos hum p1
      have cl : ((gcdL EL : Nat) : Int) ≤ u.1 := by
        have := Nat.le_of_dvd (by omega) (gcdL_dvd hum)
        omega
      refine ⟨e.1, _, rfl, .inl (.inl (n _ _ g1)), rfl, _, _, rfl, _, _, rfl, _, _, rfl, rfl, rfl, _, rfl, _, rfl, _, _, rfl, rfl, divW_of (by omega) ((p2.le (by omega) cl).mono (by decide)), _, rfl, _, rfl, by show 3 ≤ sizeLine; decide, fun T nT => ?_⟩
      have TD : T ≠ D9 := fun z => by rw [z, hD9] at nT; cases nT
      have n2 := same_new (o := .tup [.int (u.1 / ((gcdL EL : Nat) : Int)), .str u.2.1, .ref e.2]) nT
      have hLl : Ly.length ≤ 600 := by rw [hLy.1, List.length_map, List.length_take]; omega
      have ga := n _ _ g2
      refine ⟨_, n2 _ _ hD9, small1000 (by rw [List.length_map]; omega), Ly ++ [(T, e.2)], ?_, ?_, ?_⟩
      · rw [upd_same, List.map_append]
        rfl
      · rw [take_snoc hu, List.map_append]
        exact (hLy.mono fun e' x' h => ⟨upd_to (n2 _ _ h.1) (ne_of h.1 hD9 fun z => by cases z), upd_to (n2 _ _ h.2) (ne_of (show H' e'.2 = _ from h.2) hD9 fun z => by cases z)⟩).snoc ⟨upd_to upd_same TD, upd_to (n2 _ _ ga) (ne_of ga hD9 fun z => by cases z)⟩
      · exact same_upd (n.trans n2) nD9
    rintro H13 ⟨Ly, hD9, hLy, n⟩
    rw [List.length_map, hLx.1, List.take_length] at hLy
    refine fun mk dx nmk ndx nmd => ?_
    have nI : Same H13 (upd (upd H13 dx (.own mk)) mk (.ins (He.ga K "Marking") dx [])) := same_upd (same_new ndx) nmk
    refine ⟨mk, dx, D9, EL.map (dvE (gcdL EL)), rfl, upd_same, ⟨Ly, nI _ _ hD9, hLy.mono fun _ _ r => r.same nI⟩, eok, fun H14 te smk hmk hte => ⟨rfl, ?_⟩⟩
    have n14 : Same H13 H14 := fun b o e => smk b o (fun z => by rw [z, nmk] at e; cases e) (nI b o e)
    have m14 := (m12.trans n).trans n14
    have hlo14 := n14 _ _ (n _ _ (m _ _ hlo11))
    refine ⟨_, rfl, by show 2 ≤ sizeLine; decide, fun T nT => ?_⟩
    have n15 := same_new (o := .tup [.ref mk, .ref lo]) nT
    exact hq T _ mk lo _ lot (m4.trans (m14.trans n15)) upd_same (MkAt.same ⟨dx, te, hmk, hte⟩ n15) (n15 _ _ hlo14) BWR
end Km
end

section
set_option Elab.async false
set_option linter.all false
set_option maxRecDepth 100000
set_option maxHeartbeats 4000000
set_option pp.maxSteps 700
/-! best_writer. -/
namespace Km
open PySem PySem.Spec PyProof.Rows L2
variable {P : Program} {w : World} {K : PySem.W.Frag} {mg : Str → Option Value} {base : Heap}
def spBw (K : PySem.W.Frag) : Sp := fun vs H Q _ => ∃ (s c a : Addr) (W : List (Str × Int)) (R : List (Str × List Str)) (F : List (Int × List Str)), vs = [.ref s, .ref c, .ref a] ∧ Src K H s W ∧ ChAt K H c R ∧ CP H a F ∧ WOk W ∧ FOk F ∧ (R.map Prod.fst).Nodup ∧ (∀ r ∈ R, r.1 ∈ r.2) ∧ (∀ t ∈ W.map Prod.fst, t ∈ R.map Prod.fst) ∧
  ∀ T H' m lo ES lot, Same H H' → H' T = some (.tup [.ref m, .ref lo]) → MkAt K H' m ES → Tt H' lo lot → BW W R F ES lot → Q (.ref T) H'
abbrev N_best_writer : List PySem.Str := ["source", "changes", "finder", "texts", "keys", "weight", "accused", "whole", "unit", "fits", "text", "supply", "flow", "lot", "x", "entries", "common", "i", "many"]
theorem sc_best_writer : FnScope N_best_writer ["source", "changes", "finder"] (defScope s_best_writer) := ⟨rfl, rfl, rfl, by decide +kernel, rfl, by decide +kernel, by decide +kernel⟩
theorem ok_bw (fx : Fx K mg) : Cal P w K mg base CX0 3 "best_writer" ["source", "changes", "finder"] (spBw K) := by
  have cal_accused_by : Cal P w K mg base CX0 1 "accused_by" ["accused", "readable"] (spAcc K) := ok_acc fx
  have cal_greatest_divisor : Cal P w K mg base CX0 1 "greatest_divisor" ["a", "b"] spGcd := ok_gd fx
  have cal_known : Cal P w K mg base CX0 2 "known" ["source", "changes"] (spKnown K) := ok_known fx
  have cal_least_multiple : Cal P w K mg base CX0 2 "least_multiple" ["a", "b"] spLm := ok_lm fx
  have mak_Flow : Mak P w K mg base CX0 1 "Flow" (He.ga K "Flow") ["self", "fits", "supply", "room"] (spFlI K) := ok_flI fx
  have mak_Marking : Mak P w K mg base CX0 1 "Marking" (He.ga K "Marking") ["self", "entries"] (spMkI K) := ok_mkI fx
  have met_Changes_of : Met P w K mg base CX0 1 (He.ga K "Changes") "of" ["self", "text"] (spOf K) := ok_of fx
  have met_Flow_fill : Met P w K mg base CX0 2 (He.ga K "Flow") "fill" ["self"] (spFill K) := ok_fill fx
  have met_Flow_pour : Met P w K mg base CX0 1 (He.ga K "Flow") "pour" ["self"] (spPour K) := ok_pour fx
  have met_Machine_texts : Met P w K mg base CX0 1 (He.ga K "Machine") "texts" ["self"] (spTx K (He.ga K "Machine")) := ok_txM fx
  have met_Machine_weight_of : Met P w K mg base CX0 1 (He.ga K "Machine") "weight_of" ["self", "text"] (spWt K (He.ga K "Machine")) := ok_wtM fx
  have met_Table_texts : Met P w K mg base CX0 1 (He.ga K "Table") "texts" ["self"] (spTx K (He.ga K "Table")) := ok_txT fx
  have met_Table_weight_of : Met P w K mg base CX0 1 (He.ga K "Table") "weight_of" ["self", "text"] (spWt K (He.ga K "Table")) := ok_wtT fx
  refine Cal.of (st := s_best_writer) fx.g_best_writer fx.fd_best_writer sc_best_writer (fun _ _ _ _ _ _ _ us hl => match us, hl with | [_, _, _], _ => rfl) (fun vs H Q E h => by obtain ⟨s, c, a, W, R, F, rfl, _⟩ := h; rfl) fun f cdv A outer s H vs Q E hr h => ⟨_, PSs.nox (pss_cons (ps_expr (pe_c cal_known hr (by decide) rfl pass0 (pa_cons (pv 0) (pa_cons (pv 1) pa_nil)))) (pss_cons (ps_set (i := 3) sc_best_writer.nd rfl (.inr rfl) (pe_or2 (pe_mt0 met_Table_texts hr (by decide) pass0 (pv 0)) (pe_mt0 met_Machine_texts hr (by decide) pass0 (pv 0)))) (pss_cons (ps_set (i := 4) sc_best_writer.nd rfl (.inr rfl) (pe_lc (own := [("weight", 5), ("accused", 6)]) rfl sc_best_writer.nd (pi_listK (K := K) rfl (pv 2)) (blkOk_by (N := N_best_writer) (sc := defScope s_best_writer) (by decide +kernel)) (fun _ _ _ _ _ => (pg_lstK (K := K) (n := 2) rfl rfl (pgs_cons (pg_name (i := 5) sc_best_writer.nd rfl (.inl rfl)) (pgs_cons (pg_name (i := 6) sc_best_writer.nd rfl (.inl rfl)) pgs_nil)))) (fun _ _ _ _ _ => pts_nil) (fun _ _ _ _ _ => (pe_tup (pa_cons (pv 5) (pa_cons (pe_tupleOfK (K := K) rfl rfl fx.f_tuple (pe_callB (cr_sortedSK (K := K) rfl) rfl fx.f_sorted boot_sorted (pa_cons (pv 6) pa_nil))) pa_nil)))))) (pss_cons (ps_set (i := 7) sc_best_writer.nd rfl (.inr rfl) (pe_callB (cr_sumK (K := K) rfl rfl) rfl fx.f_sum boot_sum (pa_cons (pe_lc (own := [("weight", 5), ("accused", 6)]) rfl sc_best_writer.nd (pi_listK (K := K) rfl (pv 4)) (blkOk_by (N := N_best_writer) (sc := defScope s_best_writer) (by decide +kernel)) (fun _ _ _ _ _ => (pg_tupK (K := K) (n := 2) rfl rfl (pgs_cons (pg_name (i := 5) sc_best_writer.nd rfl (.inl rfl)) (pgs_cons (pg_name (i := 6) sc_best_writer.nd rfl (.inl rfl)) pgs_nil)))) (fun _ _ _ _ _ => pts_nil) (fun _ _ _ _ _ => (pv 5))) pa_nil))) (pss_cons (ps_set (i := 8) sc_best_writer.nd rfl (.inr rfl) (pe_c cal_least_multiple hr (by decide) rfl pass0 (pa_cons (pe_fldK (K := K) rfl (pv 0) rfl) (pa_cons (pv 7) pa_nil)))) (pss_cons (ps_setLc (i := 9) (own := [("text", 10)]) rfl sc_best_writer.nd rfl rfl (sw_true rfl rfl rfl (by decide +kernel)) (pi_tupK (K := K) rfl (pv 3)) (blkOk_by (N := N_best_writer) (sc := defScope s_best_writer) (by decide +kernel)) (fun _ _ _ _ _ => (pg_name (i := 10) sc_best_writer.nd rfl (.inr rfl))) (fun _ _ _ _ _ => pts_nil) (fun _ _ _ _ _ => (pe_lc (own := [("weight", 5), ("accused", 6)]) rfl sc_best_writer.nd (pi_listK (K := K) rfl (pv 4)) (blkOk_rel (N := N_best_writer) (sc0 := defScope s_best_writer) (by decide +kernel)) (fun _ _ _ _ _ => (pg_tupK (K := K) (n := 2) rfl rfl (pgs_cons (pg_name (i := 5) sc_best_writer.nd rfl (.inl rfl)) (pgs_cons (pg_name (i := 6) sc_best_writer.nd rfl (.inl rfl)) pgs_nil)))) (fun _ _ _ _ _ => pts_nil) (fun _ _ _ _ _ => (pe_c cal_accused_by hr (by decide) rfl pass0 (pa_cons (pv 6) (pa_cons (pe_mt met_Changes_of hr (by decide) pass0 (pv 1) (pa_cons (pv 10) pa_nil)) pa_nil))))))) (pss_cons (ps_setLc (i := 11) (own := [("text", 10)]) rfl sc_best_writer.nd rfl rfl (sw_true rfl rfl rfl (by decide +kernel)) (pi_tupK (K := K) rfl (pv 3)) (blkOk_by (N := N_best_writer) (sc := defScope s_best_writer) (by decide +kernel)) (fun _ _ _ _ _ => (pg_name (i := 10) sc_best_writer.nd rfl (.inl rfl))) (fun _ _ _ _ _ => pts_nil) (fun _ _ _ _ _ => (pe_op op_mulW (pe_or2 (pe_mt met_Table_weight_of hr (by decide) pass0 (pv 0) (pa_cons (pv 10) pa_nil)) (pe_mt met_Machine_weight_of hr (by decide) pass0 (pv 0) (pa_cons (pv 10) pa_nil))) (pe_op op_fdivW (pv 8) (pe_fldK (K := K) rfl (pv 0) rfl))))) (pss_cons (ps_set (i := 12) sc_best_writer.nd rfl (.inl rfl) (pe_mk mak_Flow hr (by decide) rfl pass0 (pa_cons (pv 9) (pa_cons (pv 11) (pa_cons (pe_lc (own := [("weight", 5), ("accused", 6)]) rfl sc_best_writer.nd (pi_listK (K := K) rfl (pv 4)) (blkOk_by (N := N_best_writer) (sc := defScope s_best_writer) (by decide +kernel)) (fun _ _ _ _ _ => (pg_tupK (K := K) (n := 2) rfl rfl (pgs_cons (pg_name (i := 5) sc_best_writer.nd rfl (.inl rfl)) (pgs_cons (pg_name (i := 6) sc_best_writer.nd rfl (.inl rfl)) pgs_nil)))) (fun _ _ _ _ _ => pts_nil) (fun _ _ _ _ _ => (pe_op op_mulW (pv 5) (pe_op op_fdivW (pv 8) (pv 7))))) pa_nil))))) (pss_cons (ps_expr (pe_mt0 met_Flow_fill hr (by decide) pass0 (pv 12))) (pss_cons (ps_set (i := 13) sc_best_writer.nd rfl (.inl rfl) (pe_tupleOfK (K := K) rfl rfl fx.f_tuple (pe_lc (own := [("x", 14)]) rfl sc_best_writer.nd (pi_listK (K := K) rfl (pe_callB (cr_sortedK (K := K) rfl) rfl fx.f_sorted boot_sorted (pa_cons (pe_callTy (call_list_dK rfl) rfl fx.f_list boot_list (pa_cons (pe_fldK (K := K) rfl (pv 12) rfl) pa_nil)) pa_nil))) (blkOk_by (N := N_best_writer) (sc := defScope s_best_writer) (by decide +kernel)) (fun _ _ _ _ _ => (pg_name (i := 14) sc_best_writer.nd rfl (.inl rfl))) (fun _ _ _ _ _ => pts_nil) (fun _ _ _ _ _ => (pe_ix (ix_tupK (K := K) rfl) (pv 3) (pv 14) (fun _ _ => rfl)))))) (pss_cons (ps_expr (pe_mt0 met_Flow_pour hr (by decide) pass0 (pv 12))) (pss_cons (ps_set (i := 15) sc_best_writer.nd rfl (.inl rfl) (pe_lst pa_nil)) (pss_cons (ps_set (i := 16) sc_best_writer.nd rfl (.inr rfl) pe_int) (pss_cons (ps_for PassesOwn.never rfl (pi_enum rfl fx.f_enumerate (pa_cons (pv 4) pa_nil)) (pg_tupK (K := K) (n := 2) rfl rfl (pgs_cons (pg_name (i := 17) sc_best_writer.nd rfl (.inl rfl)) (pgs_cons (pg_tupK (K := K) (n := 2) rfl rfl (pgs_cons (pg_name (i := 5) sc_best_writer.nd rfl (.inl rfl)) (pgs_cons (pg_name (i := 6) sc_best_writer.nd rfl (.inl rfl)) pgs_nil))) pgs_nil))) (pss_one (ps_for PassesOwn.never rfl (pi_enumT rfl fx.f_enumerate (pa_cons (pv 3) pa_nil)) (pg_tupK (K := K) (n := 2) rfl rfl (pgs_cons (pg_name (i := 14) sc_best_writer.nd rfl (.inl rfl)) (pgs_cons (pg_name (i := 10) sc_best_writer.nd rfl (.inl rfl)) pgs_nil))) (pss_one (ps_if (pt_cmpR op_gt (pe_ix (ix_listK (K := K) rfl) (pe_ix (ix_listK (K := K) rfl) (pe_fldK (K := K) rfl (pv 12) rfl) (pv 14) (fun _ _ => rfl)) (pv 17) (fun _ _ => rfl)) pe_int (nomark _)) (pss_cons (ps_expr (pe_bm PySem.F.plainAttrs_list PySem.F.slot_list_append PySem.F.type_list_append mt_append (pv 15) (pa_cons (pe_tup (pa_cons (pe_ix (ix_listK (K := K) rfl) (pe_ix (ix_listK (K := K) rfl) (pe_fldK (K := K) rfl (pv 12) rfl) (pv 14) (fun _ _ => rfl)) (pv 17) (fun _ _ => rfl)) (pa_cons (pv 10) (pa_cons (pv 6) pa_nil)))) pa_nil))) (pss_one (ps_set (i := 16) sc_best_writer.nd rfl (.inr rfl) (pe_c cal_greatest_divisor hr (by decide) rfl pass0 (pa_cons (pv 16) (pa_cons (pe_ix (ix_listK (K := K) rfl) (pe_ix (ix_listK (K := K) rfl) (pe_fldK (K := K) rfl (pv 12) rfl) (pv 14) (fun _ _ => rfl)) (pv 17) (fun _ _ => rfl)) pa_nil)))))) pss_nil))))) (pss_one (ps_ret (pe_tup (pa_cons (pe_mk mak_Marking hr (by decide) rfl pass0 (pa_cons (pe_lc (own := [("many", 18), ("text", 10), ("accused", 6)]) rfl sc_best_writer.nd (pi_listK (K := K) rfl (pv 15)) (blkOk_by (N := N_best_writer) (sc := defScope s_best_writer) (by decide +kernel)) (fun _ _ _ _ _ => (pg_tupK (K := K) (n := 3) rfl rfl (pgs_cons (pg_name (i := 18) sc_best_writer.nd rfl (.inl rfl)) (pgs_cons (pg_name (i := 10) sc_best_writer.nd rfl (.inl rfl)) (pgs_cons (pg_name (i := 6) sc_best_writer.nd rfl (.inl rfl)) pgs_nil))))) (fun _ _ _ _ _ => pts_nil) (fun _ _ _ _ _ => (pe_tup (pa_cons (pe_op op_fdivW (pv 18) (pv 16)) (pa_cons (pv 10) (pa_cons (pv 6) pa_nil)))))) pa_nil)) (pa_cons (pv 13) pa_nil))))))))))))))))))), ?_⟩
  obtain ⟨s, c, a, W, R, F, rfl, hs, hc, hF, wok, fok, rnd, rin, wr, hq⟩ := h
  have fl := fok.len
  have wl := wok.len
  obtain ⟨sC, sx, sf, s1, s2, s3, s4⟩ := src_wh fx hs
  refine ⟨_, rfl, _, rfl, s, c, W, R, rfl, hs, hc, rnd, wr, by omega, fun H1 m1 => ?_⟩
  refine src_tx (hs.same m1) (by omega) rfl fun ya ys H2 m2 hya hyp hyso => ?_
  have m2 := m1.trans m2
  obtain ⟨M, ha, hM⟩ := id hF
  refine ⟨_, rfl, a, rfl, ⟨_, .inl (.inl (m2 _ _ ha))⟩, fun D nD => ?_⟩
  refine lc_list (xs := M.map fun e => V.ref e.1) (fun j H' => ∃ (L : List (Addr × Addr)) (KS : List (Int × List Str)), KyL H' D L KS ∧ All2 KF KS (F.take j) ∧ Same H2 H') ⟨[], [], ⟨upd_same, All2.nil⟩, All2.nil, same_new nD⟩ ?_ ?_ ?_
  · rintro j H' _ ⟨_, _, _, _, m⟩
    exact .inl (.inl (m _ _ (m2 _ _ ha)))
  · rintro j y H' hy ⟨L, KS, hK, hKF, m⟩
    rw [List.getElem?_map] at hy
    obtain ⟨e, he, rfl⟩ := Option.map_eq_some_iff.mp hy
    obtain ⟨f, hf, g1, g2⟩ := hM.r he
    have m' := m2.trans m
    have few := fok.few f (List.mem_of_getElem? hf)
    refine ⟨e.1, _, rfl, .inl (.inl (m' _ _ g1)), rfl, _, _, rfl, _, _, rfl, rfl, rfl, _, rfl, _, rfl, e.2, f.2, rfl, .inl (.inl (m' _ _ g2)), by omega, fun zs q hp hso nq => ?_⟩
    have hq1 := same_new (o := .lst (zs.map V.str)) nq
    refine .inl ⟨q, _, rfl, .inl (.inl upd_same), fun q2 nq2 => ?_⟩
    have hq2 := same_upd (o := .tup (zs.map V.str)) hq1 (same_free hq1 nq2)
    refine ⟨by show 2 ≤ sizeLine; decide, fun q3 nq3 => ?_⟩
    have hq3 := same_upd (o := .tup [.int f.1, .ref q2]) hq2 (same_free hq2 nq3)
    have hD9 := hq3 _ _ hK.l
    have q2D : q2 ≠ D := fun z => by rw [z, upd_at hK.l nq] at nq2; cases nq2
    have q3D : q3 ≠ D := fun z => by rw [z, upd_at (upd_at hK.l nq) nq2] at nq3; cases nq3
    have hLl : L.length ≤ 20 := by
      have h1 := hK.r.1
      have h2 := hKF.1
      rw [List.length_take] at h2
      omega
    refine ⟨_, hD9, small1000 (by rw [List.length_map]; omega), L ++ [(q3, q2)], KS ++ [(f.1, zs)], ⟨?_, ?_⟩, ?_, ?_⟩
    · rw [upd_same, List.map_append]
      rfl
    · exact (hK.r.mono fun e' k h => ⟨upd_to (hq3 _ _ h.1) (ne_of h.1 hK.l fun z => by cases z), upd_to (hq3 _ _ h.2) (ne_of (show H' e'.2 = _ from h.2) hK.l fun z => by cases z)⟩).snoc ⟨upd_to upd_same q3D, upd_to (upd_at upd_same nq3) q2D⟩
    · rw [take_snoc hf]
      exact hKF.snoc ⟨rfl, hp, hso⟩
    · exact same_upd (m.trans hq3) nD
  rintro H3 ⟨L, KS, hK, hKF, m3⟩
  rw [List.length_map, hM.1, List.take_length] at hKF
  have hya3 : Tt H3 ya ys := m3 _ _ hya
  have m3 := m2.trans m3
  have hll : L.length = F.length := by rw [hK.r.1, hKF.1]
  refine ⟨_, rfl, D, rfl, ⟨_, .inl (.inl hK.l)⟩, fun D2 nD2 => ?_⟩
  refine lc_list (xs := L.map fun e => V.ref e.1) (fun j H' => H' = upd H3 D2 (.lst (((F.take j).map Prod.fst).map V.int))) rfl ?_ ?_ ?_
  · rintro j H' _ rfl
    exact .inl (.inl (upd_at hK.l nD2))
  · rintro j y H' hy rfl
    obtain ⟨e, k, rfl, he, hk, g1, g2⟩ := hK.at hy
    obtain ⟨f, hf, kf, _⟩ := hKF.r hk
    have hil : j < F.length := (List.getElem?_eq_some_iff.mp hf).1
    refine ⟨e.1, _, rfl, .inl (.inl (upd_at g1 nD2)), rfl, _, _, rfl, _, _, rfl, rfl, rfl, _, rfl, _, upd_same, small1000 (by rw [List.length_map, List.length_map, List.length_take]; omega), ?_⟩
    rw [upd_upd, take_snoc hf, kf]
    simp
  rintro H' rfl
  rw [List.length_map, hll, List.take_length]
  refine ⟨D2, F.map Prod.fst, rfl, .inl (.inl upd_same), ?_⟩
  have m4 := same_new (o := .lst ((F.map Prod.fst).map V.int)) nD2
  have hya4 : Tt (upd H3 D2 (.lst ((F.map Prod.fst).map V.int))) ya ys := m4 _ _ hya3
  have hK4 := hK.same m4
  have m4 := m3.trans m4
  generalize upd H3 D2 (.lst ((F.map Prod.fst).map V.int)) = H4 at m4 hya4 hK4
  have p1 := wsum_pos wok
  have p2 := fsum_pos fok
  obtain ⟨wn, ewn⟩ : ∃ n : Nat, wsum W = (n : Int) := ⟨_, (Int.toNat_of_nonneg (by omega)).symm⟩
  obtain ⟨fn, efn⟩ : ∃ n : Nat, fsum F = (n : Int) := ⟨_, (Int.toNat_of_nonneg (by omega)).symm⟩
  have bw := wsum_bd wok
  have bf := fsum_bd fok
  rw [ewn] at bw
  rw [efn] at bf
  refine ⟨_, rfl, s, sC, sx, sf, _, rfl, m4 _ _ s3, s1, s2, s4, _, rfl, wn, fn, ?_, by omega, by omega, bw.mono (by decide), bf.mono (by decide), ?_⟩
  · show [V.int (wsum W), V.int (fsum F)] = _
    rw [ewn, efn]
  have g0p : 0 < Nat.gcd wn fn := Nat.gcd_pos_of_pos_left _ (by omega)
  obtain ⟨g0, hg0⟩ : ∃ g, g = Nat.gcd wn fn := ⟨_, rfl⟩
  obtain ⟨u2, hu2⟩ : g0 ∣ wn := by rw [hg0]; exact Nat.gcd_dvd_left _ _
  obtain ⟨u1, hu1⟩ : g0 ∣ fn := by rw [hg0]; exact Nat.gcd_dvd_right _ _
  rw [← hg0] at g0p
  have d2 : wn / g0 = u2 := by rw [hu2, Nat.mul_div_cancel_left _ g0p]
  rw [← hg0, d2]
  have u1p : 1 ≤ u1 := by
    rcases Nat.eq_zero_or_pos u1 with z | z
    · rw [z] at hu1; omega
    · exact z
  have u2p : 1 ≤ u2 := by
    rcases Nat.eq_zero_or_pos u2 with z | z
    · rw [z] at hu2; omega
    · exact z
  have unitW : ((u2 * fn : Nat) : Int) / wsum W = (u1 : Int) := by
    rw [ewn, ← Int.natCast_ediv, hu1, show u2 * (g0 * u1) = wn * u1 by rw [hu2, ← Nat.mul_assoc, Nat.mul_comm u2]]
    rw [Nat.mul_div_cancel_left _ (by omega)]
  have unitF : ((u2 * fn : Nat) : Int) / fsum F = (u2 : Int) := by
    rw [efn, ← Int.natCast_ediv, Nat.mul_div_cancel _ (by omega)]
  have bu1 : Bd 145 (u1 : Int) := bf.le (Int.natCast_nonneg _) (Int.ofNat_le.mpr (by rw [hu1]; exact Nat.le_mul_of_pos_left _ g0p))
  have bu2 : Bd 145 (u2 : Int) := bw.le (Int.natCast_nonneg _) (Int.ofNat_le.mpr (by rw [hu2]; exact Nat.le_mul_of_pos_left _ g0p))
  have B : BwIn W R F KS ys g0 u1 u2 := ⟨wok, fok, hyp, hyso, hKF, by omega, by omega, by omega, by rw [ewn, hu2]; push_cast; exact Int.mul_comm _ _, by rw [efn, hu1]; push_cast; exact Int.mul_comm _ _⟩
  have yl := B.N
  have ytR : ∀ {j : Nat} {t : Str}, ys[j]? = some t → ∃ r ∈ R, r.1 = t := fun {j t} ht => by
    obtain ⟨r, h1, h2⟩ := List.mem_map.mp (wr t (hyp.mem_iff.mp (List.mem_of_getElem? ht)))
    exact ⟨r, h1, h2⟩
  -- fits
  refine ⟨_, rfl, ya, rfl, ⟨_, .inl (.inl hya4)⟩, fun DF nDF => ?_⟩
  refine lc_tup (K := K) (a := ya) (xs := ys.map V.str) (fun j H' => ∃ fr : List Addr, H' DF = some (.lst (fr.map V.ref)) ∧ Rws H' fr j F.length (fun x i => .bl (ftF F R ys x i)) ∧ (∀ t ∈ fr, H4 t = none ∧ t ≠ DF) ∧ Same H4 H')
    ⟨[], upd_same, ⟨rfl, fun x a e => by simp at e⟩, fun t h => (by cases h), same_new nDF⟩ ?_ ?_ ?_
  · rintro j H' _ ⟨_, _, _, _, m⟩
    exact .inl (.inl (m _ _ hya4))
  · rintro j y H5 hy ⟨fr, hDF, hfr, hfree, m5⟩
    obtain ⟨t, ht, rfl⟩ := lt_map hy
    have hjl : j < ys.length := (List.getElem?_eq_some_iff.mp ht).1
    obtain ⟨r, hr', rfl⟩ := ytR ht
    have hK5 := hK4.same m5
    refine ⟨rfl, _, rfl, D, rfl, ⟨_, .inl (.inl hK5.l)⟩, fun D3 nD3 => ?_⟩
    have nD34 := same_free m5 nD3
    have D3F := ne_of_none hDF nD3
    refine lc_list (xs := L.map fun e => V.ref e.1) (fun i H' => H' D3 = some (.lst (vB i (ftF F R ys j))) ∧ Same H5 H') ⟨upd_same, same_new nD3⟩ ?_ ?_ ?_
    · rintro i H' _ ⟨_, m⟩
      exact .inl (.inl (m _ _ hK5.l))
    · rintro i y H6 hy ⟨hD3, m6⟩
      obtain ⟨e, k, rfl, he, hk, g1, g2⟩ := (hK5.same m6).at hy
      obtain ⟨f, hf, kf1, kf2, kf3⟩ := hKF.r hk
      have hil : i < F.length := (List.getElem?_eq_some_iff.mp hf).1
      have few := fok.few f (List.mem_of_getElem? hf)
      have hc6 := hc.same (m4.trans (m5.trans m6))
      have hc7 := hc6
      obtain ⟨cx, cd, e1, _⟩ := hc7
      refine ⟨e.1, _, rfl, .inl (.inl g1), rfl, _, _, rfl, _, _, rfl, rfl, rfl, ?_⟩
      refine ⟨_, rfl, _, rfl, c, cx, _, rfl, e1, rfl, _, rfl, c, r, R, rfl, hc6, rnd, hr', fun q ⟨zs, k1, k2, k3, k4, k5⟩ => ⟨e.2, q, k.2, zs, rfl, .inr (.inl (.inl g2)), k1, by omega, fun H7 m7 => ⟨_, m7 _ _ hD3, small1000 (by rw [vec_len]; omega), ?_, same_upd (m6.trans m7) nD3⟩⟩⟩
      have e1 : fitsR k.2 zs = ftF F R ys j i := by
        unfold ftF
        rw [fat_of hf, yat_of ht, rdo_of rnd hr']
        refine fitsR_congr (fun t => kf2.mem_iff) fun t => ?_
        rw [k4]
        constructor
        · rintro (rfl | h)
          · exact rin r hr'
          · exact h
        · exact .inr
      rw [upd_same, e1]
      exact congrArg some (congrArg HO.lst (vec_snoc i fun i => V.bl (ftF F R ys j i)))
    rintro H6 ⟨hD3, m6⟩
    rw [List.length_map, hll] at hD3
    have hDF6 := m6 _ _ hDF
    have frl : fr.length ≤ 24 := by rw [hfr.1]; omega
    refine ⟨_, hDF6, small1000 (by rw [List.length_map]; omega), fr ++ [D3], by rw [upd_same, List.map_append]; rfl, ⟨by rw [List.length_append, hfr.1]; rfl, fun z b e => ?_⟩, fun t ht => ?_, same_upd (m5.trans m6) nDF⟩
    · rcases Nat.lt_trichotomy z fr.length with q | q | q
      · rw [List.getElem?_append_left q] at e
        exact upd_to (m6 _ _ (hfr.2 z b e)) (hfree b (List.mem_of_getElem? e)).2
      · rw [List.getElem?_append_right (by omega), show z - fr.length = 0 by omega] at e
        cases e
        have : z = j := by rw [q, hfr.1]
        subst this
        exact upd_to hD3 (Ne.symm D3F)
      · rw [List.getElem?_eq_none (by simp; omega)] at e
        cases e
    · rcases List.mem_append.mp ht with ht | ht
      · exact hfree t ht
      · rw [List.mem_singleton.mp ht]
        exact ⟨nD34, Ne.symm D3F⟩
  rintro H5 ⟨fr, hDF, hfr, hfree, m5⟩
  rw [List.length_map] at hfr
  have hya5 := m5 _ _ hya4
  have hK5 := hK4.same m5
  -- supply
  refine ⟨_, rfl, ya, rfl, ⟨_, .inl (.inl hya5)⟩, fun DS nDS => ?_⟩
  refine lc_tup (K := K) (a := ya) (xs := ys.map V.str) (fun j H' => H' = upd H5 DS (.lst (vI j (sS W ys u1)))) rfl ?_ ?_ ?_
  · rintro j H' _ rfl
    exact .inl (.inl (upd_at hya5 nDS))
  · rintro j y H' hy rfl
    obtain ⟨t, ht, rfl⟩ := lt_map hy
    have hjl : j < ys.length := (List.getElem?_eq_some_iff.mp ht).1
    have mS := (m4.trans m5).trans (same_new (o := .lst (vI j (sS W ys u1))) nDS)
    have bt := wt_bd wok t
    refine ⟨rfl, src_wt (hs.same mS) rfl rfl ⟨_, rfl, _, rfl, s, sC, sx, sf, _, rfl, mS _ _ s3, s1, s2, s4, _, _, rfl, rfl, divW_of (by omega) ((wsum_bd wok).mono (by decide)), _, _, rfl, rfl, mulW_of ((bd40 bt.1 bt.2).mono (by decide)) (by rw [unitW]; exact bu1.mono (by decide)), _, upd_same, small1000 (by rw [vec_len]; omega), ?_⟩⟩
    rw [upd_upd, unitW]
    have e1 : wt W t * (u1 : Int) = sS W ys u1 j := by
      unfold sS
      rw [yat_of ht]
    show upd H5 DS (.lst (vI j (sS W ys u1) ++ [V.int (wt W t * (u1 : Int))])) = _
    rw [e1]
    exact congrArg (fun l => upd H5 DS (HO.lst l)) (vec_snoc j fun i => V.int (sS W ys u1 i))
  rintro H' rfl
  rw [List.length_map]
  have hDS : upd H5 DS (.lst (vI ys.length (sS W ys u1))) DS = some (.lst (vI ys.length (sS W ys u1))) := upd_same
  have m6 := same_new (o := .lst (vI ys.length (sS W ys u1))) nDS
  have nDS4 := same_free m5 nDS
  have hDF6 := m6 _ _ hDF
  have hfr6 := hfr.same m6
  have hK6 := hK5.same m6
  have SF : DF ≠ DS := ne_of_none hDF nDS
  have Sfr : ∀ t ∈ fr, t ≠ DS := fun t ht => by
    obtain ⟨z, hz⟩ := List.mem_iff_getElem?.mp ht
    exact ne_of_none (show H5 t = _ from hfr.2 z t hz) nDS
  have m6 := m5.trans m6
  generalize upd H5 DS (.lst (vI ys.length (sS W ys u1))) = H6 at hDS m6 hDF6 hfr6 hK6
  -- room
  refine ⟨_, rfl, _, rfl, _, rfl, D, rfl, ⟨_, .inl (.inl hK6.l)⟩, fun DR nDR => ?_⟩
  refine lc_list (xs := L.map fun e => V.ref e.1) (fun j H' => H' = upd H6 DR (.lst (vI j (sR F u2)))) rfl ?_ ?_ ?_
  · rintro j H' _ rfl
    exact .inl (.inl (upd_at hK6.l nDR))
  · rintro j y H' hy rfl
    obtain ⟨e, k, rfl, he, hk, g1, g2⟩ := hK6.at hy
    obtain ⟨f, hf, kf, _⟩ := hKF.r hk
    have hil : j < F.length := (List.getElem?_eq_some_iff.mp hf).1
    have pf := fok.pos f (List.mem_of_getElem? hf)
    refine ⟨e.1, _, rfl, .inl (.inl (upd_at g1 nDR)), rfl, _, _, rfl, _, _, rfl, rfl, rfl, _, rfl, _, rfl, _, rfl, _, _, rfl, rfl, divW_of (show 0 < fsum F by omega) ((fsum_bd fok).mono (by decide)), _, _, rfl, rfl, mulW_of (by rw [kf]; exact (bd40 (by omega) pf.2).mono (by decide)) (by show Bd 8000 (((u2 * fn : Nat) : Int) / fsum F); rw [unitF]; exact bu2.mono (by decide)), _, upd_same, small1000 (by rw [vec_len]; omega), ?_⟩
    rw [upd_upd, kf]
    show upd H6 DR (.lst (vI j (sR F u2) ++ [V.int (f.1 * (((u2 * fn : Nat) : Int) / fsum F))])) = _
    rw [unitF]
    have e1 : f.1 * (u2 : Int) = sR F u2 j := by
      unfold sR
      rw [fat_of hf]
    rw [e1]
    exact congrArg (fun l => upd H6 DR (HO.lst l)) (vec_snoc j fun i => V.int (sR F u2 i))
  rintro H' rfl
  rw [List.length_map, hll]
  have hDR : upd H6 DR (.lst (vI F.length (sR F u2))) DR = some (.lst (vI F.length (sR F u2))) := upd_same
  have m7 := same_new (o := .lst (vI F.length (sR F u2))) nDR
  have nDR4 := same_free m6 nDR
  have RF : DF ≠ DR := ne_of_none hDF6 nDR
  have RS : DS ≠ DR := ne_of_none hDS nDR
  have Rfr : ∀ t ∈ fr, t ≠ DR := fun t ht => by
    obtain ⟨z, hz⟩ := List.mem_iff_getElem?.mp ht
    exact ne_of_none (show H6 t = _ from hfr6.2 z t hz) nDR
  have hDF7 := m7 _ _ hDF6
  have hDS7 := m7 _ _ hDS
  have hfr7 := hfr6.same m7
  have m7 := m6.trans m7
  generalize upd H6 DR (.lst (vI F.length (sR F u2))) = H7 at hDR m7 hDF7 hDS7 hfr7
  refine fun x dx nx ndx nxd => ?_
  have nx4 := same_free m7 nx
  have mI : Same H7 (upd (upd H7 dx (.own x)) x (.ins (He.ga K "Flow") dx [])) := by
    exact same_upd (same_new ndx) nx
  have m8 := m7.trans mI
  refine ⟨x, dx, DF, DS, DR, fr, ys.length, F.length, ftF F R ys, sS W ys u1, sR F u2, rfl, upd_same, mI _ _ hDF7, hfr7.same mI, mI _ _ hDS7, mI _ _ hDR, RS, SF, RF, fun t ht => ⟨Sfr t ht, Rfr t ht⟩, by omega, by omega, fun H8 A qa la sm8 hx8 hb8 ap eA1 eA2 trn => ⟨rfl, ?_⟩⟩
  have m48 : Same H4 H8 := fun b o e => sm8 b o (fun z => by rw [z, nx4] at e; cases e) (m8 b o e)
  have trn4 : ∀ t ∈ A.tr, H4 t = none := fun t ht => same_free m8 (trn t ht)
  exact bw_tail fx m4 m48 hya4 hK4 hKF B nx4 (by rw [eA1]; exact nDS4) (by rw [eA2]; exact nDR4) trn4 hx8 hb8 ap hq
end Km
end

section
set_option Elab.async false
set_option linter.all false
/-! x != y, flat data within lists and tuples, of any texts. -/
namespace Km
open PySem PySem.Spec PyProof.Rows L2
def rNeP (K : PySem.W.Frag) : R2 := fun x y H Q => ∃ d e, Dp K H x d ∧ Dp K H y e ∧ d.plain = true ∧ e.plain = true ∧ d.depth ≤ 64 ∧ Q (.bl (!PyData.eqv d e)) H
theorem op_neP {X : Cx} (hu : X.A.units + 64 < cLine) : OpR X (compareOp .NotEq) (rNeP X.K) := by
  intro pins s σ H x y v u Q I rx ry h
  obtain ⟨d, e, hd, he, sd, se, dd, q⟩ := h
  obtain ⟨as, r1⟩ := Dp.reads I d x v hd rx
  obtain ⟨bs, r2⟩ := Dp.reads I e y u he ry
  exact SeqAt.ne_plain r1 r2 sd se (by have := Nat.min_le_left d.depth e.depth; omega) ⟨.bl _, H, I, rfl, q⟩
theorem op_nePK {X : Cx} {K : PySem.W.Frag} (hK : X.K = K) (hu : X.A.units + 64 < cLine) : OpR X (compareOp .NotEq) (rNeP K) := by subst hK; exact op_neP hu
theorem dp_strs {K : PySem.W.Frag} {H : Hp} : ∀ xs : List Str, DpAll K H (xs.map V.str) (xs.map PyData.str)
  | [] => .nil
  | x :: r => .cons (.str x) (dp_strs r)
theorem pl_strs : ∀ xs : List Str, PyData.plainAll (xs.map PyData.str) = true
  | [] => rfl
  | x :: r => by
    show (PyData.plain (.str x) && PyData.plainAll (r.map PyData.str)) = true
    rw [pl_strs r]
    rfl
theorem dep_strs : ∀ xs : List Str, PyData.depthAll (xs.map PyData.str) = 0
  | [] => rfl
  | x :: r => by
    show max (PyData.depth (.str x)) (PyData.depthAll (r.map PyData.str)) = 0
    rw [dep_strs r]
    rfl
/-- two tuples of the same texts do not differ -/
theorem ne_tups {K : PySem.W.Frag} {H : Hp} {a b : Addr} {xs : List Str} {Q : VK} (ha : SqT K H a (xs.map V.str)) (hb : SqT K H b (xs.map V.str)) (hq : Q (.bl false) H) : rNeP K (.ref a) (.ref b) H Q := by
  refine ⟨.tuple (xs.map PyData.str), .tuple (xs.map PyData.str), .tup ha (dp_strs xs), .tup hb (dp_strs xs), pl_strs xs, pl_strs xs, ?_, ?_⟩
  · show PyData.depthAll (xs.map PyData.str) + 1 ≤ 64
    rw [dep_strs]
    decide
  · rw [SeqAt.eqv_refl_plain _ (show (PyData.tuple (xs.map PyData.str)).plain = true from pl_strs xs)]
    exact hq
end Km
end

section
set_option Elab.async false
set_option linter.all false
set_option maxRecDepth 100000
set_option maxHeartbeats 4000000
set_option pp.maxSteps 700
/-! The law's looks at what was written. -/
namespace Km
open PySem PySem.Spec PyProof.Rows L2
variable {P : Program} {w : World} {K : PySem.W.Frag} {mg : Str → Option Value} {base : Heap}
def spEnt (K : PySem.W.Frag) : Sp := fun vs H Q _ => ∃ (m wa fa : Addr) (W : List (Str × Int)) (F : List (Int × List Str)) (ES : List Ent), vs = [.ref m, .ref wa, .ref fa] ∧ MkAt K H m ES ∧ H wa = some (.dK (skv V.int W)) ∧ FD H fa F ∧ WOk W ∧ FOk F ∧ EOk ES ∧ (∀ x ∈ ES, x.2.1 ∈ W.map Prod.fst) ∧ ES.length ≤ W.length * F.length ∧ gcdL ES = 1 ∧
  ∀ te H', Same H H' → EnT H' te ES → Q (.ref te) H'
abbrev N_law_entries : List PySem.Str := ["_law_told", "_law_weights", "_law_finder_here", "_law_common", "_law_entry"]
theorem sc_law_entries : FnScope N_law_entries ["_law_told", "_law_weights", "_law_finder_here"] (defScope s_law_entries) := ⟨rfl, rfl, rfl, by decide +kernel, rfl, by decide +kernel, by decide +kernel⟩
theorem ok_ent (fx : Fx K mg) : Cal P w K mg base CX0 2 "_law_entries" ["_law_told", "_law_weights", "_law_finder_here"] (spEnt K) := by
  have cal_law_is_whole : Cal P w K mg base CX0 1 "_law_is_whole" ["_law_told"] spInt := ok_isWhole fx
  have cal_law_lowest : Cal P w K mg base CX0 1 "_law_lowest" ["_law_over", "_law_under"] spLow := ok_low fx
  refine Cal.of (st := s_law_entries) fx.g_law_entries fx.fd_law_entries sc_law_entries (fun _ _ _ _ _ _ _ us hl => match us, hl with | [_, _, _], _ => rfl) (fun vs H Q E h => by obtain ⟨m, wa, fa, W, F, ES, rfl, _⟩ := h; rfl) fun f cdv A outer s H vs Q E hr h => ⟨_, PSs.nox (pss_cons (ps_if (PW.pt (pw_or (pt_not (pt_val (pe_callB (call_isiK (K := K) rfl) rfl fx.f_isinstance boot_isinstance (pa_cons (pv 0) (pa_cons (pe_glob (v := .ref (He.ga K "Marking")) rfl fx.g_Marking rfl) pa_nil))))) (pw_or1 (pt_not (pt_val (pe_callB (call_isiK (K := K) rfl) rfl fx.f_isinstance boot_isinstance (pa_cons (pe_fldK (K := K) rfl (pv 0) rfl) (pa_cons (pe_bltn (v := .ty "tuple") rfl fx.f_tuple boot_tuple rfl) pa_nil)))))))) (pss_one (ps_ret pe_non)) pss_nil) (pss_cons (ps_if (pt_not (pt_chain op_lt op_le pe_int (pe_callB (call_lenK (K := K) rfl) rfl fx.f_len boot_len (pa_cons (pe_fldK (K := K) rfl (pv 0) rfl) pa_nil)) (pe_op op_mulW (pe_callB call_lenD rfl fx.f_len boot_len (pa_cons (pv 1) pa_nil)) (pe_callB (call_lenK (K := K) rfl) rfl fx.f_len boot_len (pa_cons (pv 2) pa_nil))))) (pss_one (ps_ret pe_non)) pss_nil) (pss_cons (ps_set (i := 3) sc_law_entries.nd rfl (.inl rfl) pe_int) (pss_cons (ps_for PassesOwn.never rfl (pi_tupK (K := K) rfl (pe_fldK (K := K) rfl (pv 0) rfl)) (pg_name (i := 4) sc_law_entries.nd rfl (.inl rfl)) (pss_cons (ps_if (PW.pt (pw_or (pt_not (pt_val (pe_callB (call_isiK (K := K) rfl) rfl fx.f_isinstance boot_isinstance (pa_cons (pv 4) (pa_cons (pe_bltn (v := .ty "tuple") rfl fx.f_tuple boot_tuple rfl) pa_nil))))) (pw_or (pt_cmpR op_ne (pe_callB (call_lenK (K := K) rfl) rfl fx.f_len boot_len (pa_cons (pv 4) pa_nil)) pe_int (nomark _)) (pw_or1 (pt_not (pt_val (pe_callB (call_isiK (K := K) rfl) rfl fx.f_isinstance boot_isinstance (pa_cons (pe_ix (ix_tupK (K := K) rfl) (pv 4) pe_int (fun _ _ => rfl)) (pa_cons (pe_bltn (v := .ty "tuple") rfl fx.f_tuple boot_tuple rfl) pa_nil))))))))) (pss_one (ps_ret pe_non)) pss_nil) (pss_cons (ps_if (PW.pt (pw_or (pt_not (pt_val (pe_c cal_law_is_whole hr (by decide) rfl pass0 (pa_cons (pe_ix (ix_tupK (K := K) rfl) (pv 4) pe_int (fun _ _ => rfl)) pa_nil)))) (pw_or (pt_cmpR op_lt (pe_ix (ix_tupK (K := K) rfl) (pv 4) pe_int (fun _ _ => rfl)) pe_int (nomark _)) (pw_or1 (pt_cmp (pc_dnotin (hu_of hr) (pe_ix (ix_tupK (K := K) rfl) (pv 4) pe_int (fun _ _ => rfl)) (pv 1))))))) (pss_one (ps_ret pe_non)) pss_nil) (pss_one (ps_set (i := 3) sc_law_entries.nd rfl (.inl rfl) (pe_op op_fdivW (pe_ix (ix_tupK (K := K) rfl) (pv 4) pe_int (fun _ _ => rfl)) (pe_ix (ix_tupK (K := K) rfl) (pe_c cal_law_lowest hr (by decide) rfl pass0 (pa_cons (pv 3) (pa_cons (pe_ix (ix_tupK (K := K) rfl) (pv 4) pe_int (fun _ _ => rfl)) pa_nil))) pe_int (fun _ _ => rfl)))))))) (pss_cons (ps_if (pt_cmpR op_ne (pv 3) pe_int (nomark _)) (pss_one (ps_ret pe_non)) pss_nil) (pss_one (ps_ret (pe_fldK (K := K) rfl (pv 0) rfl)))))))), ?_⟩
  obtain ⟨m, wa, fa, W, F, ES, rfl, hm, hwa, ⟨LF, hfa, hLF⟩, wok, fok, ok, sub, hlen, one, hq⟩ := h
  obtain ⟨dx, te, hm, L, hte, hL⟩ := hm
  have cm := fx.c_Marking
  have elen := ok.len
  have wl := wok.len
  have fl := fok.len
  refine ⟨_, rfl, _, _, _, _, true, rfl, .own _, ty_marking fx hm, kit_self _, true, rfl, iteF ?_⟩
  refine ⟨_, rfl, m, _, dx, _, _, rfl, hm, cm, fx.n_Marking_entries, rfl, _, _, _, _, true, rfl, .ty "tuple", .base (.tup hte), kit_tup_tup, true, rfl, iteF ?_⟩
  refine ⟨_, rfl, m, _, dx, _, _, rfl, hm, cm, fx.n_Marking_entries, rfl, _, ES.length, rfl, .inr ⟨_, .inl (.inl hte), by rw [List.length_map, hL.1]⟩, _, _, rfl, rfl, true, ?_, iteT ?_⟩
  · exact congrArg V.bl (decide_eq_true (by omega))
  refine ⟨_, rfl, wa, _, rfl, hwa, ?_⟩
  refine ⟨_, rfl, _, F.length, rfl, .inl ⟨_, .inl (.inl hfa), by rw [List.length_map, hLF.1]⟩, _, _, rfl, rfl, mulW_of ?_ ?_, _, _, rfl, rfl, true, ?_, iteF ?_⟩
  · rw [skv_len]
    show ((W.length : Int)).natAbs < 2 ^ 8000
    exact Nat.lt_of_lt_of_le (show W.length < 2 ^ 5 by omega) (Nat.pow_le_pow_right (by decide) (by decide))
  · show ((F.length : Int)).natAbs < 2 ^ 8000
    exact Nat.lt_of_lt_of_le (show F.length < 2 ^ 5 by omega) (Nat.pow_le_pow_right (by decide) (by decide))
  · refine congrArg V.bl (decide_eq_true ?_)
    rw [skv_len]
    have : ((ES.length : Nat) : Int) ≤ ((W.length * F.length : Nat) : Int) := by omega
    rwa [Int.natCast_mul] at this
  refine ⟨_, rfl, m, _, dx, _, _, rfl, hm, cm, fx.n_Marking_entries, rfl, te, rfl, ⟨_, .inl (.inl hte)⟩, for_tup (xs := L.map fun e => V.ref e.1) (fun i σ H' => Same H H' ∧ ∃ o4, σ = [some (.ref m), some (.ref wa), some (.ref fa), some (.int (gcdL (ES.take i) : Nat)), o4]) ⟨Same.refl _, none, rfl⟩ ?_ ?_ ?_⟩
  · rintro i σ H' _ ⟨s, _⟩
    exact .inl (.inl (s _ _ hte))
  · rintro i y σ H1 hy ⟨s, o4, rfl⟩
    rw [List.getElem?_map] at hy
    obtain ⟨e, he, rfl⟩ := Option.map_eq_some_iff.mp hy
    obtain ⟨r, hr', g1, g2⟩ := hL.r he
    have hmem := List.mem_of_getElem? hr'
    obtain ⟨p1, p2⟩ := ok.pos r hmem
    have t1 := s _ _ g1
    have t2 := s _ _ g2
    refine ⟨_, rfl, _, _, _, _, true, rfl, .ty "tuple", .base (.tup t1), kit_tup_tup, true, rfl, iteF ?_⟩
    refine ⟨_, rfl, _, 3, rfl, .inr ⟨_, .inl (.inl t1), rfl⟩, rfl, false, rfl, iteF ?_⟩
    refine ⟨_, rfl, e.1, _, _, _, rfl, rfl, .inl (.inl t1), rfl, _, _, _, _, true, rfl, .ty "tuple", .base (.tup t2), kit_tup_tup, true, rfl, iteF ?_⟩
    refine ⟨_, rfl, e.1, _, _, _, rfl, rfl, .inl (.inl t1), rfl, r.1, rfl, true, rfl, iteF ?_⟩
    refine ⟨_, rfl, e.1, _, _, _, rfl, rfl, .inl (.inl t1), rfl, _, _, rfl, rfl, _, rfl, ite2 (fun z => ?_) fun z => ?_⟩
    · have z : r.1 < 1 := by simpa using z
      omega
    have tw := sub r hmem
    obtain ⟨u, hu, eu⟩ := List.mem_map.mp tw
    refine ⟨_, rfl, e.1, _, _, _, rfl, rfl, .inl (.inl t1), rfl, _, rfl, wa, _, rfl, .inl ⟨_, Sum.inr r.2.1, .inl (s _ _ hwa), rfl, (show some (V.int u.2) = _ from ?_)⟩, _, rfl, iteF ?_⟩
    · rw [← eu, skv_some (f := V.int) (x := u.2) wok.nd hu]
    refine ⟨_, rfl, e.1, _, _, _, rfl, rfl, .inl (.inl t1), rfl, ?_⟩
    obtain ⟨n, hn⟩ : ∃ n : Nat, r.1 = (n : Int) := ⟨_, (Int.toNat_of_nonneg (by omega)).symm⟩
    refine ⟨_, rfl, _, rfl, e.1, _, _, _, rfl, rfl, .inl (.inl t1), rfl, gcdL (ES.take i), n, ?_, by omega, ?_, fun p np => ?_⟩
    · show [V.int _, V.int r.1] = _
      rw [hn]
    · rw [hn] at p2
      exact p2.mono (by decide)
    have gp : 0 < Nat.gcd (gcdL (ES.take i)) n := Nat.gcd_pos_of_pos_right _ (by omega)
    have gd : Nat.gcd (gcdL (ES.take i)) n ∣ n := Nat.gcd_dvd_right _ _
    have dp : 0 < n / Nat.gcd (gcdL (ES.take i)) n := Nat.div_pos (Nat.le_of_dvd (by omega) gd) gp
    refine ⟨p, _, _, _, rfl, rfl, .inl (.inl upd_same), rfl, _, _, rfl, rfl, divW_of (by omega) ?_, ?_⟩
    · rw [hn] at p2
      exact (p2.le (Int.natCast_nonneg _) (Int.ofNat_le.mpr (Nat.div_le_self _ _))).mono (by decide)
    refine ⟨same_upd s (same_free s np), some (.ref e.1), ?_⟩
    rw [take_snoc hr', gcdL_snoc, hn, Int.toNat_natCast]
    have : ((n : Int) / ((n / Nat.gcd (gcdL (ES.take i)) n : Nat) : Int)) = ((Nat.gcd (gcdL (ES.take i)) n : Nat) : Int) := by
      rw [← Int.natCast_ediv, Nat.div_div_self gd (by omega)]
    show [_, _, _, some (V.int ((n : Int) / ((n / Nat.gcd (gcdL (ES.take i)) n : Nat) : Int))), _] = _
    rw [this]
  · rintro σ H1 ⟨s, o4, rfl⟩
    rw [List.length_map, hL.1, List.take_length, one]
    refine ⟨_, rfl, rfl, false, rfl, iteF ?_⟩
    exact ⟨_, rfl, m, _, dx, _, _, rfl, s _ _ hm, cm, fx.n_Marking_entries, rfl, hq te H1 s ⟨L, s _ _ hte, hL.mono fun _ _ r => r.same s⟩⟩
def spLotF : Sp := fun vs H Q _ => ∃ (lo wa : Addr) (W : List (Str × Int)) (lot : List Str), vs = [.ref lo, .ref wa] ∧ Tt H lo lot ∧ H wa = some (.dK (skv V.int W)) ∧ WOk W ∧ lot.Pairwise ltS ∧ (∀ t ∈ lot, t ∈ W.map Prod.fst) ∧ Q (.bl true) H
abbrev N_law_lot_fits : List PySem.Str := ["_law_told", "_law_weights", "_law_place"]
theorem sc_law_lot_fits : FnScope N_law_lot_fits ["_law_told", "_law_weights"] (defScope s_law_lot_fits) := ⟨rfl, rfl, rfl, by decide +kernel, rfl, by decide +kernel, by decide +kernel⟩
theorem ok_lotF (fx : Fx K mg) : Cal P w K mg base CX0 1 "_law_lot_fits" ["_law_told", "_law_weights"] spLotF := by
  refine Cal.of (st := s_law_lot_fits) fx.g_law_lot_fits fx.fd_law_lot_fits sc_law_lot_fits (fun _ _ _ _ _ _ _ us hl => match us, hl with | [_, _], _ => rfl) (fun vs H Q E h => by obtain ⟨lo, wa, W, lot, rfl, _⟩ := h; rfl) fun f cdv A outer s H vs Q E hr h => ⟨_, PSs.nox (pss_cons (ps_if (PW.pt (pw_or (pt_not (pt_val (pe_callB (call_isiK (K := K) rfl) rfl fx.f_isinstance boot_isinstance (pa_cons (pv 0) (pa_cons (pe_bltn (v := .ty "tuple") rfl fx.f_tuple boot_tuple rfl) pa_nil))))) (pw_or1 (pt_cmpR op_gt (pe_callB (call_lenK (K := K) rfl) rfl fx.f_len boot_len (pa_cons (pv 0) pa_nil)) (pe_callB call_lenD rfl fx.f_len boot_len (pa_cons (pv 1) pa_nil)) (nomark _))))) (pss_one (ps_ret pe_bl)) pss_nil) (pss_cons (ps_for PassesOwn.never rfl (pi_range1 rfl fx.f_range (pa_cons (pe_callB (call_lenK (K := K) rfl) rfl fx.f_len boot_len (pa_cons (pv 0) pa_nil)) pa_nil)) (pg_name (i := 2) sc_law_lot_fits.nd rfl (.inl rfl)) (pss_one (ps_if (PW.pt (pw_or (pt_cmp (pc_dnotin (hu_of hr) (pe_ix (ix_tupK (K := K) rfl) (pv 0) (pv 2) (fun _ _ => rfl)) (pv 1))) (pw_or1 (PW.pt (pw_and (pt_cmpR op_gt (pv 2) pe_int (nomark _)) (pw_and1 (pt_not (pt_cmpR op_lt_str (pe_ix (ix_tupK (K := K) rfl) (pv 0) (pe_op op_sub (pv 2) pe_int) (fun _ _ => rfl)) (pe_ix (ix_tupK (K := K) rfl) (pv 0) (pv 2) (fun _ _ => rfl)) (nomark _))))))))) (pss_one (ps_ret pe_bl)) pss_nil))) (pss_one (ps_ret pe_bl)))), ?_⟩
  obtain ⟨lo, wa, W, lot, rfl, hlo, hwa, wok, hpw, sub, hq⟩ := h
  have wl := wok.len
  have ll : lot.length ≤ W.length := by
    have h := len_sub (xs := lot) (ys := W.map Prod.fst) (List.Pairwise.imp (S := (· ≠ ·)) (fun {a c} (h : ltS a c) (e : a = c) => ltS_irr c (by rw [e] at h; exact h)) hpw) sub
    rwa [List.length_map] at h
  refine ⟨_, rfl, _, _, _, _, true, rfl, .ty "tuple", .base (.tup hlo), kit_tup_tup, true, rfl, iteF ?_⟩
  refine ⟨_, rfl, _, lot.length, rfl, .inr ⟨_, .inl (.inl hlo), by rw [List.length_map]⟩, _, rfl, wa, _, rfl, hwa, _, _, rfl, rfl, false, ?_, iteF ?_⟩
  · refine congrArg V.bl (decide_eq_false ?_)
    rw [skv_len]
    omega
  refine ⟨_, rfl, _, lot.length, rfl, .inr ⟨_, .inl (.inl hlo), by rw [List.length_map]⟩, _, rfl, by omega, by omega, ?_⟩
  refine for_range (n := lot.length) (fun i σ H' => H' = H ∧ ∃ o, σ = [some (.ref lo), some (.ref wa), o]) ⟨rfl, none, rfl⟩ ?_ ?_
  · rintro i σ H' hi ⟨rfl, o, rfl⟩
    rw [Int.zero_add]
    have hat := List.getElem?_eq_getElem hi
    have atS : ∀ {j : Nat} {t : Str}, lot[j]? = some t → atI (lot.map V.str) (j : Nat) = some (.str t) := fun {j t} h => atI_nat (j := j) (by rw [List.getElem?_map, h] <;> rfl)
    obtain ⟨u, hu, eu⟩ := List.mem_map.mp (sub _ (List.getElem_mem hi))
    refine ⟨_, rfl, _, rfl, lo, _, _, _, rfl, rfl, .inl (.inl hlo), atS hat, _, rfl, wa, _, rfl, .inl ⟨_, Sum.inr lot[i], .inl hwa, rfl, (show some (V.int u.2) = _ from ?_)⟩, _, rfl, iteF ?_⟩
    · rw [← eu, skv_some (f := V.int) (x := u.2) wok.nd hu]
    refine ⟨_, rfl, _, _, rfl, rfl, _, rfl, ite2 (fun z => ?_) fun z => ?_⟩
    · have z : 0 < i := by
        have : (0 : Int) < (i : Nat) := by simpa using z
        omega
      have hp := List.getElem?_eq_getElem (show i - 1 < lot.length by omega)
      have ei : ((i : Nat) : Int) - 1 = ((i - 1 : Nat) : Int) := by omega
      refine ⟨_, rfl, _, rfl, _, _, rfl, rfl, lo, _, _, _, rfl, rfl, .inl (.inl hlo), (show atI (lot.map V.str) (((i : Nat) : Int) - 1) = some (.str lot[i - 1]) by rw [ei]; exact atS hp), _, rfl, _, rfl, lo, _, _, _, rfl, rfl, .inl (.inl hlo), atS hat, _, _, rfl, rfl, true, ?_, iteF ?_⟩
      · exact congrArg V.bl (decide_eq_true (ltS_iff.mp (sorted_lt_at hpw (show i - 1 < i by omega) hp hat)))
      · exact ⟨rfl, _, rfl⟩
    · exact iteF ⟨rfl, _, rfl⟩
  · rintro σ H' ⟨rfl, o, rfl⟩
    exact hq
theorem SqE {te : Addr} {H : Hp} {L : List (Addr × Addr)} (h : H te = some (.tup (L.map fun e => V.ref e.1))) : SqT K H te (L.map fun e => V.ref e.1) := .inl (.inl h)
theorem same_back {H H2 H3 : Hp} {d : Addr} {u : HO} (h : H d = some u) (s : Same H H2) (m : Sm d H2 H3) : Same H (upd H3 d u) := fun b o e => by
  by_cases z : b = d
  · subst z
    rw [h] at e
    cases e
    exact upd_same
  · rw [upd_ne z]
    exact m b o z (s b o e)
theorem sumQ_bd {q : Str × List Str → Bool} {ES : List Ent} (ok : EOk ES) : Bd 1010 (sumQ q ES) := Bd.sums (k := 10) (n := 1000) (ns := (ES.filter fun e : Ent => q e.2).map Prod.fst) (fun i hi => by
  obtain ⟨e, he, rfl⟩ := List.mem_map.mp hi
  exact (ok.pos e (List.mem_filter.mp he).1).2) (by rw [List.length_map]; have := ok.len; have := List.length_filter_le (fun e : Ent => q e.2) ES; omega)
def spUns (K : PySem.W.Frag) : Sp := fun vs H Q _ => ∃ (te wa : Addr) (W : List (Str × Int)) (ES : List Ent), vs = [.ref te, .ref wa] ∧ EnT H te ES ∧ H wa = some (.dK (skv V.int W)) ∧ WOk W ∧ EOk ES ∧ (∀ e ∈ W, sumQ (fun r => decide (r.1 = e.1)) ES * wsum W = e.2 * esum ES) ∧ ∀ H', Same H H' → Q (.bl true) H'
abbrev N_law_unseen : List PySem.Str := ["_law_entries_here", "_law_weights", "_law_full", "_law_entry", "_law_whole_here", "_law_text_here"]
theorem sc_law_unseen : FnScope N_law_unseen ["_law_entries_here", "_law_weights"] (defScope s_law_unseen) := ⟨rfl, rfl, rfl, by decide +kernel, rfl, by decide +kernel, by decide +kernel⟩
theorem ok_uns (fx : Fx K mg) : Cal P w K mg base CX0 1 "_law_unseen" ["_law_entries_here", "_law_weights"] (spUns K) := by
  refine Cal.of (st := s_law_unseen) fx.g_law_unseen fx.fd_law_unseen sc_law_unseen (fun _ _ _ _ _ _ _ us hl => match us, hl with | [_, _], _ => rfl) (fun vs H Q E h => by obtain ⟨te, wa, W, ES, rfl, _⟩ := h; rfl) fun f cdv A outer s H vs Q E hr h => ⟨_, PSs.nox (pss_cons (ps_set (i := 2) sc_law_unseen.nd rfl (.inl rfl) (pe_callB (cr_sumK (K := K) rfl rfl) rfl fx.f_sum boot_sum (pa_cons (pe_lc (own := [("_law_entry", 3)]) rfl sc_law_unseen.nd (pi_tupK (K := K) rfl (pv 0)) (blkOk_by (N := N_law_unseen) (sc := defScope s_law_unseen) (by decide +kernel)) (fun _ _ _ _ _ => (pg_name (i := 3) sc_law_unseen.nd rfl (.inl rfl))) (fun _ _ _ _ _ => pts_nil) (fun _ _ _ _ _ => (pe_ix (ix_tupK (K := K) rfl) (pv 3) pe_int (fun _ _ => rfl)))) pa_nil))) (pss_cons (ps_set (i := 4) sc_law_unseen.nd rfl (.inl rfl) (pe_callB (cr_sumK (K := K) rfl rfl) rfl fx.f_sum boot_sum (pa_cons (pe_callTy (cr_listVals rfl) rfl fx.f_list boot_list (pa_cons (pe_bm0 PySem.F.plainAttrs_dict PySem.F.slot_dict_values PySem.F.type_dict_values mt_dvals (pv 1)) pa_nil)) pa_nil))) (pss_cons (ps_lock (ps_for PassesOwn.never rfl (pi_keys (pv 1)) (pg_name (i := 5) sc_law_unseen.nd rfl (.inr rfl)) (pss_one (ps_if (pt_cmpR op_ne (pe_op op_mulW (pe_callB (cr_sumK (K := K) rfl rfl) rfl fx.f_sum boot_sum (pa_cons (pe_lc (own := [("_law_entry", 3)]) rfl sc_law_unseen.nd (pi_tupK (K := K) rfl (pv 0)) (blkOk_by (N := N_law_unseen) (sc := defScope s_law_unseen) (by decide +kernel)) (fun _ _ _ _ _ => (pg_name (i := 3) sc_law_unseen.nd rfl (.inl rfl))) (fun _ _ _ _ _ => (pts_one (pt_cmpR op_eq (pe_ix (ix_tupK (K := K) rfl) (pv 3) pe_int (fun _ _ => rfl)) (pv 5) (nomark _)))) (fun _ _ _ _ _ => (pe_ix (ix_tupK (K := K) rfl) (pv 3) pe_int (fun _ _ => rfl)))) pa_nil)) (pv 4)) (pe_op op_mulW (pe_dget (hu_of hr) (pv 1) (pv 5) (fun _ _ => rfl)) (pv 2)) (nomark _)) (pss_one (ps_ret pe_bl)) pss_nil)))) (pss_one (ps_ret pe_bl))))), ?_⟩
  obtain ⟨te, wa, W, ES, rfl, ⟨L, hte, hL⟩, hwa, wok, ok, uns, hq⟩ := h
  have elen := ok.len
  refine ⟨_, rfl, te, rfl, ⟨_, .inl (.inl hte)⟩, fun D nD => ?_⟩
  refine lc_tup (K := K) (a := te) (xs := L.map fun e => V.ref e.1) (fun j H' => H' = upd H D (.lst (((ES.take j).map Prod.fst).map V.int))) rfl ?_ ?_ ?_
  · rintro j H' _ rfl
    exact .inl (.inl (upd_at hte nD))
  · rintro j y H' hy rfl
    rw [List.getElem?_map] at hy
    obtain ⟨e, he, rfl⟩ := Option.map_eq_some_iff.mp hy
    obtain ⟨r, hr', g1, g2⟩ := hL.r he
    have hil : j < ES.length := (List.getElem?_eq_some_iff.mp hr').1
    refine ⟨rfl, _, rfl, e.1, _, _, _, rfl, rfl, .inl (.inl (upd_at g1 nD)), rfl, _, upd_same, small1000 (by rw [List.length_map, List.length_map, List.length_take]; omega), ?_⟩
    rw [upd_upd, take_snoc hr']
    simp
  rintro H' rfl
  rw [List.length_map, hL.1, List.take_length]
  refine ⟨D, ES.map Prod.fst, rfl, .inl (.inl upd_same), ?_⟩
  have m1 := same_new (o := .lst ((ES.map Prod.fst).map V.int)) nD
  have hwa1 := m1 _ _ hwa
  generalize upd H D (.lst ((ES.map Prod.fst).map V.int)) = H1 at m1 hwa1
  refine ⟨_, rfl, .inr (.inr (.inl ⟨rfl, .inl ⟨_, hwa1⟩⟩)), wa, _, rfl, rfl, hwa1, fun p np npa => ⟨p, wa, _, rfl, upd_same, upd_at hwa1 np, fun l nl => ⟨l, W.map Prod.snd, rfl, .inl (.inl ?_), ?_⟩⟩⟩
  · show upd _ l _ l = _
    rw [upd_same, skv_vals]
  have m2 := same_upd (o := .lst ((skv V.int W).map (·.2))) (same_upd (o := VwO p wa) m1 (same_free m1 np)) (same_free (same_upd (o := VwO p wa) m1 (same_free m1 np)) nl)
  generalize upd (upd H1 p (VwO p wa)) l (.lst ((skv V.int W).map (·.2))) = H2 at m2
  have hwa2 := m2 _ _ hwa
  refine ⟨wa, _, hwa2, trivial, fun od => ?_⟩
  refine ⟨_, rfl, wa, od, rfl, .inl ⟨_, upd_same, ?_⟩⟩
  refine for_it (walk_keys (d := wa) (o := od) (kvs := skv V.int W)) (fun j σ H' => ∃ o3 o5, σ = [some (.ref te), some (.ref wa), some (.int (esum ES)), o3, some (.int (wsum W)), o5] ∧ H' wa = some (.frz od (.dK (skv V.int W))) ∧ Sm wa H2 H') ⟨_, _, rfl, upd_same, Sm.at (Sm.refl _ _)⟩ ?_ ?_ ?_
  · rintro j σ H' _ ⟨_, _, _, h, _⟩
    exact h
  · rintro j y σ H3 H3' hj ⟨o3, o5, rfl, hfz, sm⟩ ⟨rfl, k, v, hkv, rfl⟩
    rw [skv_len] at hj
    have eW : W[j]? = some W[j] := List.getElem?_eq_getElem hj
    rw [skv_at eW] at hkv
    generalize W[j] = u at eW hkv
    cases hkv
    have hm := List.mem_of_getElem? eW
    have teN : te ≠ wa := ne_of hte hwa fun z => by cases z
    have hte3 := sm _ _ teN (m2 _ _ hte)
    have nefrz : ∀ {x : Addr} {xs : List V}, H x = some (.tup xs) → H3' x = some (.tup xs) := fun {x xs} h => sm _ _ (ne_of h hwa fun z => by cases z) (m2 _ _ h)
    refine ⟨_, rfl, te, rfl, ⟨_, .inl (.inl hte3)⟩, fun D3 nD3 => ?_⟩
    refine lc_tup (K := K) (a := te) (xs := L.map fun e => V.ref e.1) (fun i H' => H' = upd H3' D3 (.lst ((((ES.take i).filter fun x => decide (x.2.1 = u.1)).map Prod.fst).map V.int))) rfl ?_ ?_ ?_
    · rintro i H' _ rfl
      exact .inl (.inl (upd_at hte3 nD3))
    · rintro i y H' hy rfl
      rw [List.getElem?_map] at hy
      obtain ⟨e, he, rfl⟩ := Option.map_eq_some_iff.mp hy
      obtain ⟨r, hr', g1, g2⟩ := hL.r he
      have hil : i < ES.length := (List.getElem?_eq_some_iff.mp hr').1
      have g3 := upd_at (o := .lst ((((ES.take i).filter fun x => decide (x.2.1 = u.1)).map Prod.fst).map V.int)) (nefrz g1) nD3
      have hfl := List.length_filter_le (fun x : Ent => decide (x.2.1 = u.1)) (ES.take i)
      refine ⟨rfl, _, rfl, e.1, _, _, _, rfl, rfl, .inl (.inl g3), rfl, _, rfl, rfl, _, rfl, ite2 (fun z => ?_) fun z => ?_⟩
      · have z : r.2.1 = u.1 := by
          have z : V.str r.2.1 = V.str u.1 := of_decide_eq_true z
          injection z
        refine ⟨_, rfl, e.1, _, _, _, rfl, rfl, .inl (.inl g3), rfl, _, upd_same, small1000 (by rw [List.length_map, List.length_map]; rw [List.length_take] at hfl; omega), ?_⟩
        rw [upd_upd, take_snoc hr', List.filter_append, List.filter_cons, if_pos (decide_eq_true z)]
        simp
      · have z : ¬ r.2.1 = u.1 := fun e => z (by rw [e]; exact decide_eq_true rfl)
        show upd H3' D3 _ = upd H3' D3 _
        rw [take_snoc hr', List.filter_append, List.filter_cons, if_neg (by simpa using z)]
        simp
    rintro H' rfl
    rw [List.length_map, hL.1, List.take_length]
    have nD3w : wa ≠ D3 := ne_of_none hfz nD3
    have nD32 : H2 D3 = none := by
      cases e : H2 D3 with
      | none => rfl
      | some o =>
        rw [sm _ _ (Ne.symm nD3w) e] at nD3
        cases nD3
    have pu := wok.pos u hm
    refine ⟨D3, _, rfl, .inl (.inl upd_same), _, rfl, _, _, rfl, rfl, mulW_of ((sumQ_bd (q := fun r => decide (r.1 = u.1)) ok).mono (by decide)) ((wsum_bd wok).mono (by decide)), ?_⟩
    refine ⟨_, rfl, _, rfl, wa, .int u.2, rfl, .inl ⟨_, Sum.inr u.1, .inr ⟨od, upd_at hfz nD3⟩, rfl, (skv_some wok.nd hm).symm⟩, _, rfl, _, _, rfl, rfl, mulW_of ((bd40 (by omega) pu.2).mono (by decide)) ((ok.esum_bd).mono (by decide)), ?_⟩
    refine ⟨rfl, false, ?_, iteF ?_⟩
    · have := uns u hm
      refine congrArg V.bl ?_
      show (!decide (V.int (sumQ (fun r => decide (r.1 = u.1)) ES * wsum W) = V.int (u.2 * esum ES))) = false
      rw [this]
      simp
    · exact ⟨_, _, rfl, upd_at hfz nD3, sm.upd nD32⟩
  · rintro σ H3 ⟨o3, o5, rfl, hfz, sm⟩
    exact ⟨hfz, hq _ (same_back hwa m2 sm)⟩
end Km
end

section
set_option Elab.async false
set_option linter.all false
/-! Places within blocks. -/
namespace Km
open PySem PySem.Spec PyProof.Rows
def off (Bs : List (List Ent)) (p : Nat) : Nat := ((Bs.take p).flatten).length
structure Pos (Bs : List (List Ent)) (i p q : Nat) : Prop where
  at_ : i = off Bs p + q
  in_ : (p = Bs.length ∧ q = 0) ∨ ∃ B, Bs[p]? = some B ∧ q < B.length
theorem off_succ {Bs : List (List Ent)} {p : Nat} {B : List Ent} (h : Bs[p]? = some B) : off Bs (p + 1) = off Bs p + B.length := by
  unfold off
  rw [take_snoc h, List.flatten_append, List.length_append]
  simp
theorem off_all {Bs : List (List Ent)} : off Bs Bs.length = Bs.flatten.length := by
  unfold off
  rw [List.take_length]
theorem off_le {Bs : List (List Ent)} {p : Nat} {B : List Ent} (h : Bs[p]? = some B) : off Bs p + B.length ≤ Bs.flatten.length := by
  rw [← off_succ h]
  unfold off
  have e : Bs.flatten = (Bs.take (p + 1)).flatten ++ (Bs.drop (p + 1)).flatten := by rw [← List.flatten_append, List.take_append_drop]
  have := congrArg List.length e
  rw [List.length_append] at this
  omega
theorem off_at {Bs : List (List Ent)} {p q : Nat} {B : List Ent} (h : Bs[p]? = some B) (hq : q < B.length) : Bs.flatten[off Bs p + q]? = B[q]? := by
  have hp := (List.getElem?_eq_some_iff.mp h).1
  have e : Bs = Bs.take p ++ B :: Bs.drop (p + 1) := by
    have h2 := List.getElem?_eq_some_iff.mp h
    obtain ⟨_, h2⟩ := h2
    rw [← h2, List.getElem_cons_drop hp, List.take_append_drop]
  have e2 : Bs.flatten = (Bs.take p).flatten ++ (B ++ (Bs.drop (p + 1)).flatten) := by
    have := congrArg List.flatten e
    rw [List.flatten_append, List.flatten_cons] at this
    exact this
  rw [e2]
  unfold off
  rw [List.getElem?_append_right (by omega), Nat.add_sub_cancel_left, List.getElem?_append_left hq]
theorem Pos.start {Bs : List (List Ent)} (ne : ∀ B ∈ Bs, B ≠ []) : Pos Bs 0 0 0 := by
  refine ⟨by unfold off; simp, ?_⟩
  cases Bs with
  | nil => exact .inl ⟨rfl, rfl⟩
  | cons B r => exact .inr ⟨B, rfl, List.length_pos_iff.mpr (ne B List.mem_cons_self)⟩
theorem Pos.next {Bs : List (List Ent)} (ne : ∀ B ∈ Bs, B ≠ []) {i p q : Nat} {B : List Ent} (h : Pos Bs i p q) (hB : Bs[p]? = some B) (hq : q + 1 = B.length) : Pos Bs (i + 1) (p + 1) 0 := by
  have hp := (List.getElem?_eq_some_iff.mp hB).1
  refine ⟨by rw [off_succ hB, h.at_]; omega, ?_⟩
  by_cases z : p + 1 = Bs.length
  · exact .inl ⟨z, rfl⟩
  · have h2 := List.getElem?_eq_getElem (show p + 1 < Bs.length by omega)
    exact .inr ⟨_, h2, List.length_pos_iff.mpr (ne _ (List.mem_of_getElem? h2))⟩
theorem Pos.more {Bs : List (List Ent)} {i p q : Nat} {B : List Ent} (h : Pos Bs i p q) (hB : Bs[p]? = some B) (hq : q + 1 < B.length) : Pos Bs (i + 1) p (q + 1) :=
  ⟨by rw [h.at_]; omega, .inr ⟨B, hB, hq⟩⟩
theorem Pos.here {Bs : List (List Ent)} {i p q : Nat} (h : Pos Bs i p q) (hi : i < Bs.flatten.length) : ∃ B, Bs[p]? = some B ∧ q < B.length ∧ Bs.flatten[i]? = B[q]? := by
  rcases h.in_ with ⟨h1, h2⟩ | ⟨B, h1, h2⟩
  · have := h.at_
    rw [h1, h2, off_all] at this
    omega
  · exact ⟨B, h1, h2, by rw [h.at_]; exact off_at h1 h2⟩
theorem Pos.end {Bs : List (List Ent)} {p q : Nat} (h : Pos Bs Bs.flatten.length p q) : p = Bs.length := by
  rcases h.in_ with ⟨h1, _⟩ | ⟨B, h1, h2⟩
  · exact h1
  · have := off_le h1
    have := h.at_
    omega
theorem esum_app (a b : List Ent) : esum (a ++ b) = esum a + esum b := by
  unfold esum
  rw [List.map_append, List.sum_append]
theorem esum_len {B : List Ent} (h : ∀ e ∈ B, 1 ≤ e.1) : (B.length : Int) ≤ esum B := by
  induction B with
  | nil => exact Int.le_refl _
  | cons e r ih =>
    have a := h e (by simp)
    have b := ih fun x hx => h x (by simp [hx])
    have : esum (e :: r) = e.1 + esum r := by unfold esum; rw [List.map_cons, List.sum_cons]
    rw [this, List.length_cons]
    omega
theorem esum_take {B : List Ent} (h : ∀ e ∈ B, 1 ≤ e.1) (k : Nat) : esum (B.take k) ≤ esum B ∧ (k < B.length → esum (B.take k) < esum B) := by
  have e : esum B = esum (B.take k) + esum (B.drop k) := by rw [← esum_app, List.take_append_drop]
  have := esum_len (B := B.drop k) fun x hx => h x (List.mem_of_mem_drop hx)
  rw [List.length_drop] at this
  omega
end Km
end

section
set_option Elab.async false
set_option linter.all false
set_option maxRecDepth 100000
set_option maxHeartbeats 4000000
set_option pp.maxSteps 700
/-! The law's places. -/
namespace Km
open PySem PySem.Spec PyProof.Rows L2
variable {P : Program} {w : World} {K : PySem.W.Frag} {mg : Str → Option Value} {base : Heap}
def lastV (B : List Ent) : Nat → V
  | 0 => .non
  | q + 1 => .str ((B.getD q (0, Str.empty, [])).2.1)
theorem lastV_succ {B : List Ent} {q : Nat} {e : Ent} (h : B[q]? = some e) : lastV B (q + 1) = .str e.2.1 := by
  show V.str ((B.getD q (0, Str.empty, [])).2.1) = _
  rw [List.getD_eq_getElem?_getD, h]
  rfl
def Bks (F : List (Int × List Str)) (ES : List Ent) (Bs : List (List Ent)) : Prop := ES = Bs.flatten ∧ All2 (fun B f => (∀ e ∈ B, e.2.2.Perm f.2) ∧ B.Pairwise (fun a b => ltS a.2.1 b.2.1) ∧ esum B * fsum F = f.1 * esum ES) Bs F
def spPf (K : PySem.W.Frag) : Sp := fun vs H Q _ => ∃ (te fa : Addr) (F : List (Int × List Str)) (ES : List Ent) (Bs : List (List Ent)), vs = [.ref te, .ref fa] ∧ EnT H te ES ∧ FD H fa F ∧ FOk F ∧ EOk ES ∧ Bks F ES Bs ∧ ∀ H', Same H H' → Q (.bl true) H'
abbrev N_law_places_fit : List PySem.Str := ["_law_entries_here", "_law_finder_here", "_law_full", "_law_entry", "_law_whole_here", "_law_key", "_law_place", "_law_taken", "_law_last", "_law_weight", "_law_text_here", "_law_accused"]
theorem sc_law_places_fit : FnScope N_law_places_fit ["_law_entries_here", "_law_finder_here"] (defScope s_law_places_fit) := ⟨rfl, rfl, rfl, by decide +kernel, rfl, by decide +kernel, by decide +kernel⟩
theorem ok_pf (fx : Fx K mg) : Cal P w K mg base CX0 1 "_law_places_fit" ["_law_entries_here", "_law_finder_here"] (spPf K) := by
  refine Cal.of (st := s_law_places_fit) fx.g_law_places_fit fx.fd_law_places_fit sc_law_places_fit (fun _ _ _ _ _ _ _ us hl => match us, hl with | [_, _], _ => rfl) (fun vs H Q E h => by obtain ⟨te, fa, F, ES, Bs, rfl, _⟩ := h; rfl) fun f cdv A outer s H vs Q E hr h => ⟨_, PSs.nox (pss_cons (ps_set (i := 2) sc_law_places_fit.nd rfl (.inl rfl) (pe_callB (cr_sumK (K := K) rfl rfl) rfl fx.f_sum boot_sum (pa_cons (pe_lc (own := [("_law_entry", 3)]) rfl sc_law_places_fit.nd (pi_tupK (K := K) rfl (pv 0)) (blkOk_by (N := N_law_places_fit) (sc := defScope s_law_places_fit) (by decide +kernel)) (fun _ _ _ _ _ => (pg_name (i := 3) sc_law_places_fit.nd rfl (.inl rfl))) (fun _ _ _ _ _ => pts_nil) (fun _ _ _ _ _ => (pe_ix (ix_tupK (K := K) rfl) (pv 3) pe_int (fun _ _ => rfl)))) pa_nil))) (pss_cons (ps_set (i := 4) sc_law_places_fit.nd rfl (.inl rfl) (pe_callB (cr_sumK (K := K) rfl rfl) rfl fx.f_sum boot_sum (pa_cons (pe_lc (own := [("_law_key", 5)]) rfl sc_law_places_fit.nd (pi_listK (K := K) rfl (pv 1)) (blkOk_by (N := N_law_places_fit) (sc := defScope s_law_places_fit) (by decide +kernel)) (fun _ _ _ _ _ => (pg_name (i := 5) sc_law_places_fit.nd rfl (.inl rfl))) (fun _ _ _ _ _ => pts_nil) (fun _ _ _ _ _ => (pe_ix (ix_tupK (K := K) rfl) (pv 5) pe_int (fun _ _ => rfl)))) pa_nil))) (pss_cons (ps_set (i := 6) sc_law_places_fit.nd rfl (.inl rfl) pe_int) (pss_cons (ps_set (i := 7) sc_law_places_fit.nd rfl (.inl rfl) pe_int) (pss_cons (ps_set (i := 8) sc_law_places_fit.nd rfl (.inl rfl) pe_non) (pss_cons (ps_for PassesOwn.never rfl (pi_tupK (K := K) rfl (pv 0)) (pg_tupK (K := K) (n := 3) rfl rfl (pgs_cons (pg_name (i := 9) sc_law_places_fit.nd rfl (.inl rfl)) (pgs_cons (pg_name (i := 10) sc_law_places_fit.nd rfl (.inl rfl)) (pgs_cons (pg_name (i := 11) sc_law_places_fit.nd rfl (.inl rfl)) pgs_nil)))) (pss_cons (ps_if (PW.pt (pw_or (pt_cmpR op_eq (pv 6) (pe_callB (call_lenK (K := K) rfl) rfl fx.f_len boot_len (pa_cons (pv 1) pa_nil)) (nomark _)) (pw_or1 (pt_cmpR (op_nePK (K := K) rfl hr.units) (pv 11) (pe_tupleOfK (K := K) rfl rfl fx.f_tuple (pe_callB (cr_sortedSK (K := K) rfl) rfl fx.f_sorted boot_sorted (pa_cons (pe_ix (ix_tupK (K := K) rfl) (pe_ix (ix_listK (K := K) rfl) (pv 1) (pv 6) (fun _ _ => rfl)) pe_int (fun _ _ => rfl)) pa_nil))) (nomark _))))) (pss_one (ps_ret pe_bl)) pss_nil) (pss_cons (ps_if (PW.pt (pw_and (pt_cmp (pc_notN (pv 8))) (pw_and1 (pt_not (pt_cmpR op_lt_str (pv 8) (pv 10) (nomark _)))))) (pss_one (ps_ret pe_bl)) pss_nil) (pss_cons (ps_set (i := 8) sc_law_places_fit.nd rfl (.inl rfl) (pv 10)) (pss_cons (ps_set (i := 7) sc_law_places_fit.nd rfl (.inl rfl) (pe_op op_add (pv 7) (pv 9))) (pss_cons (ps_if (pt_cmpR op_gt (pe_op op_mulW (pv 7) (pv 4)) (pe_op op_mulW (pe_ix (ix_tupK (K := K) rfl) (pe_ix (ix_listK (K := K) rfl) (pv 1) (pv 6) (fun _ _ => rfl)) pe_int (fun _ _ => rfl)) (pv 2)) (nomark _)) (pss_one (ps_ret pe_bl)) pss_nil) (pss_one (ps_if (pt_cmpR op_eq (pe_op op_mulW (pv 7) (pv 4)) (pe_op op_mulW (pe_ix (ix_tupK (K := K) rfl) (pe_ix (ix_listK (K := K) rfl) (pv 1) (pv 6) (fun _ _ => rfl)) pe_int (fun _ _ => rfl)) (pv 2)) (nomark _)) (pss_cons (ps_set (i := 6) sc_law_places_fit.nd rfl (.inl rfl) (pe_op op_add (pv 6) pe_int)) (pss_cons (ps_set (i := 7) sc_law_places_fit.nd rfl (.inl rfl) pe_int) (pss_one (ps_set (i := 8) sc_law_places_fit.nd rfl (.inl rfl) pe_non)))) pss_nil)))))))) (pss_one (ps_ret (pe_cmpR op_eq (pv 6) (pe_callB (call_lenK (K := K) rfl) rfl fx.f_len boot_len (pa_cons (pv 1) pa_nil)) (nomark _)))))))))), ?_⟩
  obtain ⟨te, fa, F, ES, Bs, rfl, ⟨L, hte, hL⟩, hF, fok, ok, ⟨eES, hBs⟩, hq⟩ := h
  have elen := ok.len
  have fl := fok.len
  obtain ⟨LF, hfa, hLF⟩ := id hF
  refine ⟨_, rfl, te, rfl, ⟨_, .inl (.inl hte)⟩, fun D nD => ?_⟩
  refine lc_tup (K := K) (a := te) (xs := L.map fun e => V.ref e.1) (fun j H' => H' = upd H D (.lst (((ES.take j).map Prod.fst).map V.int))) rfl ?_ ?_ ?_
  · rintro j H' _ rfl
    exact .inl (.inl (upd_at hte nD))
  · rintro j y H' hy rfl
    rw [List.getElem?_map] at hy
    obtain ⟨e, he, rfl⟩ := Option.map_eq_some_iff.mp hy
    obtain ⟨r, hr', g1, g2⟩ := hL.r he
    have hil : j < ES.length := (List.getElem?_eq_some_iff.mp hr').1
    refine ⟨rfl, _, rfl, e.1, _, _, _, rfl, rfl, .inl (.inl (upd_at g1 nD)), rfl, _, upd_same, small1000 (by rw [List.length_map, List.length_map, List.length_take]; omega), ?_⟩
    rw [upd_upd, take_snoc hr']
    simp
  rintro H' rfl
  rw [List.length_map, hL.1, List.take_length]
  refine ⟨D, ES.map Prod.fst, rfl, .inl (.inl upd_same), ?_⟩
  have m1 := same_new (o := .lst ((ES.map Prod.fst).map V.int)) nD
  generalize upd H D (.lst ((ES.map Prod.fst).map V.int)) = H1 at m1
  have hfa1 := m1 _ _ hfa
  refine ⟨_, rfl, fa, rfl, ⟨_, .inl (.inl hfa1)⟩, fun D2 nD2 => ?_⟩
  refine lc_list (xs := LF.map fun e => V.ref e.1) (fun j H' => H' = upd H1 D2 (.lst (((F.take j).map Prod.fst).map V.int))) rfl ?_ ?_ ?_
  · rintro j H' _ rfl
    exact .inl (.inl (upd_at hfa1 nD2))
  · rintro j y H' hy rfl
    rw [List.getElem?_map] at hy
    obtain ⟨e, he, rfl⟩ := Option.map_eq_some_iff.mp hy
    obtain ⟨r, hr', g1, g2⟩ := hLF.r he
    have hil : j < F.length := (List.getElem?_eq_some_iff.mp hr').1
    refine ⟨rfl, _, rfl, e.1, _, _, _, rfl, rfl, .inl (.inl (upd_at (m1 _ _ g1) nD2)), rfl, _, upd_same, small1000 (by rw [List.length_map, List.length_map, List.length_take]; omega), ?_⟩
    rw [upd_upd, take_snoc hr']
    simp
  rintro H' rfl
  rw [List.length_map, hLF.1, List.take_length]
  refine ⟨D2, F.map Prod.fst, rfl, .inl (.inl upd_same), ?_⟩
  have m2 := same_upd (o := .lst ((F.map Prod.fst).map V.int)) m1 (same_free m1 nD2)
  generalize upd H1 D2 (.lst ((F.map Prod.fst).map V.int)) = H2 at m2
  have epos : ∀ e ∈ ES, 1 ≤ e.1 := fun e he => (ok.pos e he).1
  have tp := ok.esum_pos
  have fp := fsum_pos fok
  have bl : Bs.length = F.length := hBs.1
  have bin : ∀ {B : List Ent} {e : Ent}, B ∈ Bs → e ∈ B → e ∈ ES := fun hB he => by
    rw [eES]
    exact List.mem_flatten.mpr ⟨_, hB, he⟩
  have ne : ∀ B ∈ Bs, B ≠ [] := fun B hB e => by
    obtain ⟨i, hi⟩ := List.mem_iff_getElem?.mp hB
    obtain ⟨f, hf, _, _, h3⟩ := hBs.r hi
    have pf := (fok.pos f (List.mem_of_getElem? hf)).1
    rw [e] at h3
    have h4 : (0 : Int) * fsum F = f.1 * esum ES := h3
    have := Int.mul_pos (show 0 < f.1 by omega) tp
    omega
  refine ⟨_, rfl, te, rfl, ⟨_, .inl (.inl (m2 _ _ hte))⟩, for_tup (xs := L.map fun e => V.ref e.1) (fun i σ H' => Same H H' ∧ ∃ (p q : Nat) (o3 o5 o9 o10 o11 : Option V), Pos Bs i p q ∧ σ = [some (.ref te), some (.ref fa), some (.int (esum ES)), o3, some (.int (fsum F)), o5, some (.int (p : Nat)), some (.int (esum ((Bs.getD p []).take q))), some (lastV (Bs.getD p []) q), o9, o10, o11])
    ⟨m2, 0, 0, none, none, none, none, none, Pos.start ne, rfl⟩ ?_ ?_ ?_⟩
  · rintro i σ H' _ ⟨s, _⟩
    exact .inl (.inl (s _ _ hte))
  · rintro i y σ H3 hy ⟨s, p, q, o3, o5, o9, o10, o11, hpos, rfl⟩
    rw [List.getElem?_map] at hy
    obtain ⟨e, he, rfl⟩ := Option.map_eq_some_iff.mp hy
    obtain ⟨r, hr', g1, g2⟩ := hL.r he
    have hil : i < ES.length := (List.getElem?_eq_some_iff.mp hr').1
    rw [eES] at hil
    obtain ⟨B, hB, hqB, hat⟩ := hpos.here hil
    rw [← eES, hr'] at hat
    have hBm := List.mem_of_getElem? hB
    obtain ⟨f, hf, b1, b2, b3⟩ := hBs.r hB
    obtain ⟨ef, hef, k1, k2⟩ := hLF.l hf
    have hfl : p < F.length := (List.getElem?_eq_some_iff.mp hf).1
    have few := fok.few f (List.mem_of_getElem? hf)
    have pf := fok.pos f (List.mem_of_getElem? hf)
    have gB : Bs.getD p [] = B := by rw [List.getD_eq_getElem?_getD, hB]; rfl
    rw [gB]
    have rB : r ∈ B := List.mem_of_getElem? hat.symm
    have Bp : ∀ e ∈ B, 1 ≤ e.1 := fun e he => epos e (bin hBm he)
    obtain ⟨a1, a2⟩ := ok.acc r (List.mem_of_getElem? hr')
    have atF : atI (LF.map fun e => V.ref e.1) (p : Nat) = some (.ref ef.1) := atI_nat (j := p) (by rw [List.getElem?_map, hef] <;> rfl)
    refine ⟨e.1, _, rfl, .inl (.inl (s _ _ g1)), rfl, _, _, rfl, _, _, rfl, _, _, rfl, rfl, ?_⟩
    refine ⟨_, rfl, _, rfl, _, F.length, rfl, .inl ⟨_, .inl (.inl (s _ _ hfa)), by rw [List.length_map, hLF.1]⟩, rfl, false, ?_, iteF ?_⟩
    · refine congrArg V.bl (decide_eq_false fun z => ?_)
      injection z with z
      omega
    refine ⟨_, rfl, ?_⟩
    refine ⟨_, rfl, _, rfl, fa, _, _, _, rfl, rfl, .inl (.inl (s _ _ hfa)), atF, ef.1, _, _, _, rfl, rfl, .inl (.inl (s _ _ k1)), rfl, ef.2, f.2, rfl, .inl (.inl (s _ _ k2)), by omega, fun zs p1 hp hso np1 => ?_⟩
    have n1 := same_upd (o := .lst (zs.map V.str)) s (same_free s np1)
    refine .inl ⟨p1, _, rfl, .inl (.inl upd_same), fun p2 np2 => ?_⟩
    have n2 := same_upd (o := .tup (zs.map V.str)) n1 (same_free n1 np2)
    have ez : zs = r.2.2 := sorted_uniq hso a1 (hp.trans (b1 r rB).symm)
    subst ez
    refine ne_tups (.inl (.inl (n2 _ _ g2))) (.inl (.inl upd_same)) ⟨false, rfl, iteF ?_⟩
    generalize upd (upd H3 p1 (.lst (r.2.2.map V.str))) p2 (.tup (r.2.2.map V.str)) = H4 at n2
    have key : lastV B q = .non ∨ ∃ t, lastV B q = .str t ∧ ltS t r.2.1 := by
      cases q with
      | zero => exact .inl rfl
      | succ q =>
        have hq' := List.getElem?_eq_getElem (show q < B.length by omega)
        refine .inr ⟨_, lastV_succ hq', ?_⟩
        obtain ⟨hq2, e2⟩ := List.getElem?_eq_some_iff.mp hat.symm
        have := List.pairwise_iff_getElem.mp b2 q (q + 1) (by omega) hq2 (by omega)
        rw [e2] at this
        exact this
    have etk : esum (B.take q) + r.1 = esum (B.take (q + 1)) := by
      rw [take_snoc hat.symm, esum_snoc]
    have tk1 := esum_take Bp (q + 1)
    have tk0 : 0 ≤ esum (B.take (q + 1)) := by
      have := esum_len (B := B.take (q + 1)) fun e he => Bp e (List.mem_of_mem_take he)
      omega
    have bdB : Bd 1144 (esum (B.take (q + 1))) := by
      have h1 : Bd (134 + 1010) (f.1 * esum ES) := (bd40 (by omega) pf.2).mul ok.esum_bd
      refine h1.le tk0 ?_
      have h2 : esum B * 1 ≤ esum B * fsum F := Int.mul_le_mul_of_nonneg_left (by omega) (by omega)
      omega
    have kk : ∀ {b : Addr} {u : HO}, H b = some u → H4 b = some u := fun h => n2 _ _ h
    refine ⟨_, rfl, _, rfl, ?_⟩
    have fs1 : ∀ {x y : Int}, x * fsum F = y * fsum F → x = y := fun h => Int.eq_of_mul_eq_mul_right (by omega) h
    have nogt : ¬ f.1 * esum ES < (esum (B.take q) + r.1) * fsum F := by
      rw [etk, ← b3]
      have := Int.mul_le_mul_of_nonneg_right tk1.1 (show 0 ≤ fsum F by omega)
      omega
    have eqq : (esum (B.take q) + r.1) * fsum F = f.1 * esum ES ↔ q + 1 = B.length := by
      rw [etk, ← b3]
      constructor
      · intro h
        have h := fs1 h
        by_cases z : q + 1 < B.length
        · have := tk1.2 z
          omega
        · omega
      · intro h
        rw [h, List.take_length]
    have bt : Bd 8000 (esum (B.take q) + r.1) := by
      rw [etk]
      exact bdB.mono (by decide)
    have bf : Bd 8000 (fsum F) := (fsum_bd fok).mono (by decide)
    have bff : Bd 8000 f.1 := (bd40 (by omega) pf.2).mono (by decide)
    have be : Bd 8000 (esum ES) := ok.esum_bd.mono (by decide)
    rcases key with hk | ⟨t, hk, hlt⟩
    · rw [hk]
      refine iteF (iteF ?_)
      refine ⟨_, rfl, _, rfl, _, rfl, _, _, rfl, rfl, ?_⟩
      refine ⟨_, rfl, _, rfl, _, _, rfl, rfl, mulW_of bt bf, _, rfl, _, rfl, fa, _, _, _, rfl, rfl, .inl (.inl (kk hfa)), atF, ef.1, _, _, _, rfl, rfl, .inl (.inl (kk k1)), rfl, _, rfl, _, _, rfl, rfl, mulW_of bff be, _, _, rfl, rfl, false, ?_, iteF ?_⟩
      · exact congrArg V.bl (decide_eq_false nogt)
      refine ⟨_, rfl, _, rfl, _, _, rfl, rfl, mulW_of bt bf, _, rfl, _, rfl, fa, _, _, _, rfl, rfl, .inl (.inl (kk hfa)), atF, ef.1, _, _, _, rfl, rfl, .inl (.inl (kk k1)), rfl, _, rfl, _, _, rfl, rfl, mulW_of bff be, rfl, _, rfl, ite2 (fun z => ?_) fun z => ?_⟩
      · have z : q + 1 = B.length := eqq.mp (by
          have z : V.int ((esum (B.take q) + r.1) * fsum F) = V.int (f.1 * esum ES) := of_decide_eq_true z
          injection z)
        exact ⟨_, rfl, _, _, rfl, rfl, n2, p + 1, 0, o3, o5, some (.int r.1), some (.str r.2.1), some (.ref e.2), hpos.next ne hB z, rfl⟩
      · have z : ¬ q + 1 = B.length := fun h => z (decide_eq_true (congrArg V.int (eqq.mpr h)))
        refine ⟨n2, p, q + 1, o3, o5, some (.int r.1), some (.str r.2.1), some (.ref e.2), hpos.more hB (by omega), ?_⟩
        rw [gB, lastV_succ hat.symm, ← etk]
        rfl
    · rw [hk]
      refine iteT ⟨_, rfl, _, rfl, _, _, rfl, rfl, true, ?_, iteF ?_⟩
      · exact congrArg V.bl (decide_eq_true (ltS_iff.mp hlt))
      refine ⟨_, rfl, _, rfl, _, rfl, _, _, rfl, rfl, ?_⟩
      refine ⟨_, rfl, _, rfl, _, _, rfl, rfl, mulW_of bt bf, _, rfl, _, rfl, fa, _, _, _, rfl, rfl, .inl (.inl (kk hfa)), atF, ef.1, _, _, _, rfl, rfl, .inl (.inl (kk k1)), rfl, _, rfl, _, _, rfl, rfl, mulW_of bff be, _, _, rfl, rfl, false, ?_, iteF ?_⟩
      · exact congrArg V.bl (decide_eq_false nogt)
      refine ⟨_, rfl, _, rfl, _, _, rfl, rfl, mulW_of bt bf, _, rfl, _, rfl, fa, _, _, _, rfl, rfl, .inl (.inl (kk hfa)), atF, ef.1, _, _, _, rfl, rfl, .inl (.inl (kk k1)), rfl, _, rfl, _, _, rfl, rfl, mulW_of bff be, rfl, _, rfl, ite2 (fun z => ?_) fun z => ?_⟩
      · have z : q + 1 = B.length := eqq.mp (by
          have z : V.int ((esum (B.take q) + r.1) * fsum F) = V.int (f.1 * esum ES) := of_decide_eq_true z
          injection z)
        exact ⟨_, rfl, _, _, rfl, rfl, n2, p + 1, 0, o3, o5, some (.int r.1), some (.str r.2.1), some (.ref e.2), hpos.next ne hB z, rfl⟩
      · have z : ¬ q + 1 = B.length := fun h => z (decide_eq_true (congrArg V.int (eqq.mpr h)))
        refine ⟨n2, p, q + 1, o3, o5, some (.int r.1), some (.str r.2.1), some (.ref e.2), hpos.more hB (by omega), ?_⟩
        rw [gB, lastV_succ hat.symm, ← etk]
        rfl
  · rintro σ H3 ⟨s, p, q, o3, o5, o9, o10, o11, hpos, rfl⟩
    rw [List.length_map, hL.1, eES] at hpos
    have := hpos.end
    subst this
    refine ⟨_, rfl, _, rfl, _, F.length, rfl, .inl ⟨_, .inl (.inl (s _ _ hfa)), by rw [List.length_map, hLF.1]⟩, rfl, ?_⟩
    show Q (.bl (decide (V.int (Bs.length : Nat) = V.int (F.length : Nat)))) H3
    rw [bl, decide_eq_true rfl]
    exact hq H3 s
end Km
end

section
set_option Elab.async false
set_option linter.all false
set_option maxRecDepth 100000
set_option maxHeartbeats 4000000
set_option pp.maxSteps 700
/-! The law's lots. -/
namespace Km
open PySem PySem.Spec PyProof.Rows L2
variable {P : Program} {w : World} {K : PySem.W.Frag} {mg : Str → Option Value} {base : Heap}
theorem same_sm {H0 H H' : Hp} {p : Addr} (s : Same H0 H) (n : H0 p = none) (m : Sm p H H') : Same H0 H' := fun b o e => m b o (fun z => by rw [z, n] at e; cases e) (s b o e)
theorem skv_kv {α : Type} {f : α → V} (W : List (Str × α)) : ((skv f W).map fun kv => kV kv.1) = (W.map Prod.fst).map V.str := by
  unfold skv
  rw [List.map_map, List.map_map]
  rfl
structure LotOk (W : List (Str × Int)) (xs : List Str) : Prop where
  nd : xs.Nodup
  sub : ∀ t ∈ xs, t ∈ W.map Prod.fst
  len : xs.length ≤ 24
theorem wtsum_nonneg {W : List (Str × Int)} (ok : WOk W) (l : List Str) : 0 ≤ (l.map (wt W)).sum := by
  induction l with
  | nil => exact Int.le_refl _
  | cons a r ih =>
    have := (wt_bd ok a).1
    rw [List.map_cons, List.sum_cons]
    omega
theorem isum_le {W : List (Str × Int)} {lot : List Str} (ok : WOk W) (nd : lot.Nodup) (sub : ∀ t ∈ lot, t ∈ W.map Prod.fst) : isum W lot ≤ wsum W := by
  have h1 : isum W lot = (((W.map Prod.fst).filter fun t => decide (t ∈ lot)).map (wt W)).sum := perm_sum ((perm_filter nd ok.nd sub).map (wt W))
  have h2 : wsum W = ((W.map Prod.fst).map (wt W)).sum := by
    rw [List.map_map]
    unfold wsum
    congr 1
    refine List.map_congr_left fun e he => ?_
    show e.2 = wt W e.1
    unfold wt
    rw [lookup_some ok.nd (x := e.2) he]
    rfl
  rw [h1, h2]
  generalize W.map Prod.fst = l
  induction l with
  | nil => exact Int.le_refl _
  | cons a r ih =>
    have := (wt_bd ok a).1
    rw [List.filter_cons]
    split
    · rw [List.map_cons, List.sum_cons, List.map_cons, List.sum_cons]
      omega
    · rw [List.map_cons, List.sum_cons]
      omega
theorem bnum_ok {W : List (Str × Int)} {R : List (Str × List Str)} {F : List (Int × List Str)} {lot : List Str} (wok : WOk W) (fok : FOk F) (h : isum W lot ≤ wsum W) (hl : lot.length ≤ 1000) : 0 ≤ bnum W R F lot ∧ Bd 300 (bnum W R F lot) ∧ 0 < bden W F ∧ Bd 300 (bden W F) := by
  have p1 := wsum_pos wok
  have p2 := fsum_pos fok
  have p3 := metF_nonneg (R := R) (lot := lot) fok
  have h1 := Int.mul_nonneg (show 0 ≤ wsum W - isum W lot by omega) (show 0 ≤ fsum F by omega)
  have h2 := Int.mul_nonneg p3 (show 0 ≤ wsum W by omega)
  refine ⟨?_, ?_, Int.mul_pos p1 p2, ((wsum_bd wok).mul (fsum_bd fok)).mono (by decide)⟩
  · unfold bnum
    omega
  · have b1 := ((wsum_bd wok).sub (isum_bd (lot := lot) wok hl) (Nat.le_refl _)).mul (fsum_bd fok)
    have b2 := (metF_bd (R := R) (lot := lot) fok).mul (wsum_bd wok)
    exact (b1.add b2 (by decide)).mono (by decide)
def spLots (K : PySem.W.Frag) : Sp := fun vs H Q _ => ∃ (H0 : Hp) (p s c wa d fa ft : Addr) (W : List (Str × Int)) (R : List (Str × List Str)) (F : List (Int × List Str)) (met full : Int), vs = [.ref p, .ref s, .ref c, .ref wa, .ref d, .ref fa, .ref ft] ∧ Same H0 H ∧ H0 p = none ∧ St3 p H ∧
  Src K H0 s W ∧ ChAt K H0 c R ∧ H0 wa = some (.dK (skv V.int W)) ∧ Rdb H0 d R ∧ FD H0 fa F ∧ H0 ft = some (.tup [.int met, .int full]) ∧ WOk W ∧ FOk F ∧ (∀ r ∈ R, r.1 ∈ r.2) ∧ R.map Prod.fst = W.map Prod.fst ∧ Bd 1010 met ∧ Bd 1010 full ∧
  (∀ lot : List Str, lot.Nodup → (∀ t ∈ lot, t ∈ W.map Prod.fst) → met * bden W F ≤ bnum W R F lot * full) ∧ ∀ H', Same H0 H' → Q (.bl true) H'
abbrev N_law_lots_fit : List PySem.Str := ["_law_stream_here", "_law_source_here", "_law_changes", "_law_weights", "_law_readable_here", "_law_finder_here", "_law_found", "_law_lots", "_law_step", "_law_text_here", "_law_lot", "_law_due"]
theorem sc_law_lots_fit : FnScope N_law_lots_fit ["_law_stream_here", "_law_source_here", "_law_changes", "_law_weights", "_law_readable_here", "_law_finder_here", "_law_found"] (defScope s_law_lots_fit) := ⟨rfl, rfl, rfl, by decide +kernel, rfl, by decide +kernel, by decide +kernel⟩
theorem ok_lots (fx : Fx K mg) : Cal P w K mg base CX0 6 "_law_lots_fit" ["_law_stream_here", "_law_source_here", "_law_changes", "_law_weights", "_law_readable_here", "_law_finder_here", "_law_found"] (spLots K) := by
  have cal_law_bound : Cal P w K mg base CX0 2 "_law_bound" ["_law_weights", "_law_readable_here", "_law_finder_here", "_law_lot"] (spBound K) := ok_bound fx
  have cal_law_copy : Cal P w K mg base CX0 1 "_law_copy" ["_law_finder_here"] spCopy := ok_copy fx
  have cal_law_draw : Cal P w K mg base CX0 1 "_law_draw" ["_law_stream_here", "_law_many"] spDraw := ok_draw fx
  have cal_law_is_share : Cal P w K mg base CX0 2 "_law_is_share" ["_law_told", "_law_over", "_law_under"] (spIsSh K) := ok_isShare fx
  have cal_lot_bound : Cal P w K mg base CX0 5 "lot_bound" ["source", "changes", "finder", "lot"] (spLb K) := ok_lb fx
  refine Cal.of (st := s_law_lots_fit) fx.g_law_lots_fit fx.fd_law_lots_fit sc_law_lots_fit (fun _ _ _ _ _ _ _ us hl => match us, hl with | [_, _, _, _, _, _, _], _ => rfl) (fun vs H Q E h => by obtain ⟨H0, p, s, c, wa, d, fa, ft, W, R, F, met, full, rfl, _⟩ := h; rfl) fun f cdv A outer s H vs Q E hr h => ⟨_, PSs.nox (pss_cons (ps_set (i := 7) sc_law_lots_fit.nd rfl (.inl rfl) (pe_lst (pa_cons (pe_lst pa_nil) (pa_cons (pe_callTy (call_list_dK rfl) rfl fx.f_list boot_list (pa_cons (pv 3) pa_nil)) pa_nil)))) (pss_cons (ps_for PassesOwn.never rfl (pi_range1 rfl fx.f_range (pa_cons pe_int pa_nil)) (pg_name (i := 8) sc_law_lots_fit.nd rfl (.inr rfl)) (pss_one (ps_expr (pe_bm PySem.F.plainAttrs_list PySem.F.slot_list_append PySem.F.type_list_append mt_append (pv 7) (pa_cons (pe_lc (own := [("_law_text_here", 9)]) rfl sc_law_lots_fit.nd (pi_listK (K := K) rfl (pe_lstRev rfl rfl fx.f_list rfl fx.f_reversed (pe_callTy (call_list_dK rfl) rfl fx.f_list boot_list (pa_cons (pv 3) pa_nil)))) (blkOk_by (N := N_law_lots_fit) (sc := defScope s_law_lots_fit) (by decide +kernel)) (fun _ _ _ _ _ => (pg_name (i := 9) sc_law_lots_fit.nd rfl (.inl rfl))) (fun _ _ _ _ _ => (pts_one (pt_cmpR op_eq (pe_c cal_law_draw hr (by decide) rfl pass0 (pa_cons (pv 0) (pa_cons (pe_op op_add pe_int (pe_op op_fdiv (pv 8) pe_int)) pa_nil))) pe_int (nomark _)))) (fun _ _ _ _ _ => (pv 9))) pa_nil))))) (pss_cons (ps_for PassesOwn.never rfl (pi_listK (K := K) rfl (pv 7)) (pg_name (i := 10) sc_law_lots_fit.nd rfl (.inl rfl)) (pss_cons (ps_set (i := 11) sc_law_lots_fit.nd rfl (.inl rfl) (pe_c cal_law_bound hr (by decide) rfl pass0 (pa_cons (pv 3) (pa_cons (pv 4) (pa_cons (pv 5) (pa_cons (pv 10) pa_nil)))))) (pss_cons (ps_if (pt_not (pt_val (pe_c cal_law_is_share hr (by decide) rfl pass0 (pa_cons (pe_c cal_lot_bound hr (by decide) rfl pass0 (pa_cons (pv 1) (pa_cons (pv 2) (pa_cons (pe_c cal_law_copy hr (by decide) rfl pass0 (pa_cons (pv 5) pa_nil)) (pa_cons (pe_callTy (call_list_ofK (K := K) rfl) rfl fx.f_list boot_list (pa_cons (pv 10) pa_nil)) pa_nil))))) (pa_cons (pe_ix (ix_tupK (K := K) rfl) (pv 11) pe_int (fun _ _ => rfl)) (pa_cons (pe_ix (ix_tupK (K := K) rfl) (pv 11) pe_int (fun _ _ => rfl)) pa_nil)))))) (pss_one (ps_ret pe_bl)) pss_nil) (pss_one (ps_if (pt_cmpR op_lt (pe_op op_mulW (pe_ix (ix_tupK (K := K) rfl) (pv 11) pe_int (fun _ _ => rfl)) (pe_ix (ix_tupK (K := K) rfl) (pv 6) pe_int (fun _ _ => rfl))) (pe_op op_mulW (pe_ix (ix_tupK (K := K) rfl) (pv 6) pe_int (fun _ _ => rfl)) (pe_ix (ix_tupK (K := K) rfl) (pv 11) pe_int (fun _ _ => rfl))) (nomark _)) (pss_one (ps_ret pe_bl)) pss_nil))))) (pss_one (ps_ret pe_bl))))), ?_⟩
  obtain ⟨H0, p, s, c, wa, d, fa, ft, W, R, F, met, full, rfl, sm0, np0, h3, hs, hc, hwa, hd, hF, hft, wok, fok, rin, rw', bm, bf, least, hq⟩ := h
  have wl := wok.len
  have fl := fok.len
  have rnd : (R.map Prod.fst).Nodup := by rw [rw']; exact wok.nd
  have wr : ∀ t ∈ W.map Prod.fst, t ∈ R.map Prod.fst := fun t h => by rw [rw']; exact h
  refine ⟨Nat.zero_le _, fun l0 nl0 => ?_⟩
  have s1 := same_upd (o := .lst []) sm0 (same_free sm0 nl0)
  refine ⟨_, rfl, wa, _, rfl, s1 _ _ hwa, fun l1 nl1 => ?_⟩
  rw [skv_kv]
  have s2 := same_upd (o := .lst ((W.map Prod.fst).map V.str)) s1 (same_free s1 nl1)
  refine ⟨by show 2 ≤ sizeLine; decide, fun LL nLL => ?_⟩
  have s3 := same_upd (o := .lst [.ref l0, .ref l1]) s2 (same_free s2 nLL)
  have nLL0 := same_free s2 nLL
  have h3' : St3 p (upd (upd (upd H l0 (.lst [])) l1 (.lst ((W.map Prod.fst).map V.str))) LL (.lst [.ref l0, .ref l1])) := ((h3.new nl0).new nl1).new nLL
  have LLp : LL ≠ p := ((h3.new nl0).new nl1).ne nLL
  have e0 : Lt (upd (upd (upd H l0 (.lst [])) l1 (.lst ((W.map Prod.fst).map V.str))) LL (.lst [.ref l0, .ref l1])) l0 [] := upd_at (upd_at upd_same nl1) nLL
  have e1 : Lt (upd (upd (upd H l0 (.lst [])) l1 (.lst ((W.map Prod.fst).map V.str))) LL (.lst [.ref l0, .ref l1])) l1 (W.map Prod.fst) := upd_at upd_same nLL
  have l0L : l0 ≠ LL := ne_of_none (upd_at (o := .lst ((W.map Prod.fst).map V.str)) (upd_same (H := H) (a := l0) (o := .lst [])) nl1) nLL
  have l1L : l1 ≠ LL := ne_of_none (upd_same (H := upd H l0 (.lst [])) (a := l1) (o := .lst ((W.map Prod.fst).map V.str))) nLL
  have hLL : upd (upd (upd H l0 (.lst [])) l1 (.lst ((W.map Prod.fst).map V.str))) LL (.lst [.ref l0, .ref l1]) LL = some (.lst ([l0, l1].map V.ref)) := upd_same
  generalize upd (upd (upd H l0 (.lst [])) l1 (.lst ((W.map Prod.fst).map V.str))) LL (.lst [.ref l0, .ref l1]) = H1 at s3 h3' e0 e1 hLL
  refine ⟨3, rfl, by decide, by decide, ?_⟩
  refine for_range (n := 3) (fun i σ H' => ∃ (o8 : Option V) (as : List Addr) (LT : List (List Str)), σ = [some (.ref p), some (.ref s), some (.ref c), some (.ref wa), some (.ref d), some (.ref fa), some (.ref ft), some (.ref LL), o8, none, none, none] ∧ H' LL = some (.lst (as.map V.ref)) ∧ All2 (fun a xs => Lt H' a xs ∧ a ≠ LL) as LT ∧ (∀ xs ∈ LT, LotOk W xs) ∧ LT.length ≤ i + 2 ∧ St3 p H' ∧ Same H0 H')
    ⟨none, [l0, l1], [[], W.map Prod.fst], rfl, hLL, (All2.nil.snoc (x := l0) (y := []) ⟨e0, l0L⟩).snoc ⟨e1, l1L⟩, ?_, Nat.le_refl _, h3', s3⟩ ?_ ?_
  · intro xs hx
    rcases List.mem_cons.mp hx with rfl | hx
    · exact ⟨List.nodup_nil, fun t h => (by cases h), Nat.zero_le _⟩
    · rw [List.mem_singleton.mp hx]
      exact ⟨wok.nd, fun t h => h, by rw [List.length_map]; omega⟩
  · rintro i σ H2 hi ⟨o8, as, LT, rfl, hLL, hA, hok, hlen, h3, sm⟩
    refine ⟨_, rfl, .inl ⟨rfl, _, .inl (.inl hLL)⟩, ?_⟩
    refine ⟨_, rfl, wa, _, rfl, sm _ _ hwa, fun l nl => ?_⟩
    rw [skv_kv]
    have n1 := same_new (o := .lst ((W.map Prod.fst).map V.str)) nl
    refine ⟨l, _, rfl, .inl (.inl upd_same), fun q nq => ?_⟩
    have n2 := same_upd (o := .lst ((W.map Prod.fst).map V.str).reverse) n1 (same_free n1 nq)
    rw [← List.map_reverse] at n2 ⊢
    have hq2 : upd (upd H2 l (.lst ((W.map Prod.fst).map V.str))) q (.lst ((W.map Prod.fst).reverse.map V.str)) q = some (.lst ((W.map Prod.fst).reverse.map V.str)) := upd_same
    have h3q : St3 p (upd (upd H2 l (.lst ((W.map Prod.fst).map V.str))) q (.lst ((W.map Prod.fst).reverse.map V.str))) := (h3.new nl).new nq
    refine ⟨q, rfl, ⟨_, .inl (.inl hq2)⟩, fun D nD => ?_⟩
    generalize upd (upd H2 l (.lst ((W.map Prod.fst).map V.str))) q (.lst ((W.map Prod.fst).reverse.map V.str)) = G at n2 hq2 h3q nD
    have Dp := h3q.ne nD
    have qp : q ≠ p := st3_ne h3q (show Lt G q (W.map Prod.fst).reverse from hq2)
    have nDG := nD
    have nqD : q ≠ D := ne_of_none hq2 nD
    have wkl : (W.map Prod.fst).reverse.length ≤ 24 := by rw [List.length_reverse, List.length_map]; omega
    refine lc_list (xs := (W.map Prod.fst).reverse.map V.str) (fun j H' => ∃ zs : List Str, H' D = some (.lst (zs.map V.str)) ∧ zs.Sublist ((W.map Prod.fst).reverse.take j) ∧ St3 p H' ∧ Sm p G H') ⟨[], upd_same, List.nil_sublist _, h3q.new nD, Sm.of (same_new nD)⟩ ?_ ?_ ?_
    · rintro j H' _ ⟨zs, _, _, _, m⟩
      exact .inl (.inl (m _ _ qp hq2))
    · rintro j y H3 hy ⟨zs, hD, hzs, h33, m⟩
      obtain ⟨t, ht, rfl⟩ := lt_map hy
      have hj : j < (W.map Prod.fst).reverse.length := (List.getElem?_eq_some_iff.mp ht).1
      have zl : zs.length ≤ 24 := Nat.le_trans hzs.length_le (by rw [List.length_take]; omega)
      refine ⟨rfl, _, rfl, _, rfl, _, _, rfl, rfl, ⟨by decide, by decide⟩, _, _, rfl, rfl, p, _, rfl, by omega, by omega, h33, fun v H4 v0 v1 h34 m4 => ?_⟩
      have hD4 := m4 _ _ Dp hD
      refine ⟨rfl, _, rfl, ite2 (fun _ => ⟨_, rfl, _, hD4, small1000 (by rw [List.length_map]; omega), zs ++ [t], ?_, ?_, h34.to (Ne.symm Dp), (m.trans m4).upd nDG⟩) fun _ => ⟨zs, hD4, hzs.trans (List.take_sublist_take_left (Nat.le_succ j)), h34, m.trans m4⟩⟩
      · rw [upd_same, map_snoc]
      · rw [take_snoc ht]
        exact hzs.append (List.Sublist.refl _)
    rintro H3 ⟨zs, hD, hzs, h33, m⟩
    rw [List.length_map, List.take_length] at hzs
    have zsn : zs.Nodup := hzs.nodup (List.reverse_perm _ |>.nodup_iff.mpr wok.nd)
    have keep : ∀ {b : Addr} {o : HO}, b ≠ p → H2 b = some o → H3 b = some o := fun h e => m _ _ h (n2 _ _ e)
    have LLp : LL ≠ p := fun e => by
      obtain ⟨x, y, z, h3⟩ := h3
      rw [← e, hLL] at h3
      injection h3 with h3
      injection h3 with h3
      cases as with
      | nil => simp at h3
      | cons a r => simp at h3
    have DLL : D ≠ LL := Ne.symm (ne_of_none (n2 _ _ hLL) nDG)
    have hLL3 := keep LLp hLL
    have al : as.length ≤ 5 := by rw [hA.1]; omega
    refine ⟨LL, _, _, rfl, rfl, hLL3, small1000 (by rw [List.length_map]; omega), ?_⟩
    refine ⟨_, as ++ [D], LT ++ [zs], rfl, ?_, ?_, ?_, by rw [List.length_append]; show _ + 1 ≤ _; omega, h33.to (Ne.symm LLp), ?_⟩
    · rw [upd_same, List.map_append]
      rfl
    · exact (hA.mono fun a xs h => ⟨upd_to (keep (st3_ne h3 h.1) h.1) h.2, h.2⟩).snoc ⟨upd_to hD DLL, DLL⟩
    · intro xs hx
      rcases List.mem_append.mp hx with hx | hx
      · exact hok xs hx
      · rw [List.mem_singleton.mp hx]
        exact ⟨zsn, fun t h => List.mem_reverse.mp (hzs.subset h), Nat.le_trans hzs.length_le wkl⟩
    · exact same_upd (same_sm (sm.trans n2) np0 m) nLL0
  · rintro σ H2 ⟨o8, as, LT, rfl, hLL, hA, hok, hlen, h3, sm⟩
    refine ⟨_, rfl, LL, rfl, ⟨_, .inl (.inl hLL)⟩, for_list (xs := as.map V.ref) (fun i σ H' => Same H2 H' ∧ ∃ (o8 o10 o11 : Option V), σ = [some (.ref p), some (.ref s), some (.ref c), some (.ref wa), some (.ref d), some (.ref fa), some (.ref ft), some (.ref LL), o8, none, o10, o11])
      ⟨Same.refl _, _, _, _, rfl⟩ ?_ ?_ ?_⟩
    · rintro i σ H' _ ⟨m, _⟩
      exact .inl (.inl (m _ _ hLL))
    · rintro i y σ H3 hy ⟨m, o8, o10, o11, rfl⟩
      rw [List.getElem?_map] at hy
      obtain ⟨a, ha, rfl⟩ := Option.map_eq_some_iff.mp hy
      obtain ⟨lot, hlt, hla, _⟩ := hA.r ha
      have lok := hok lot (List.mem_of_getElem? hlt)
      have sm3 := sm.trans m
      refine ⟨_, rfl, _, rfl, _, rfl, _, rfl, wa, d, fa, a, W, R, F, lot, rfl, sm3 _ _ hwa, hd.same sm3, hF.same sm3, .inl (.inl (.inl (m _ _ hla))), wok, fok, rnd, fun t ht => ⟨lok.sub t ht, wr t (lok.sub t ht)⟩, by have := lok.len; omega, fun q H4 m4 hq4 => ?_⟩
      have sm4 := sm3.trans m4
      refine ⟨_, rfl, _, rfl, _, rfl, fa, F, rfl, hF.same sm4, by omega, fun cc H5 m5 ncc hcc => ?_⟩
      have sm5 := sm4.trans m5
      have hla5 := m5 _ _ (m4 _ _ (m _ _ hla))
      refine ⟨_, rfl, a, _, rfl, .inl (.inl (.inl hla5)), fun lc nlc => ?_⟩
      have m6 := same_new (o := .lst (lot.map V.str)) nlc
      have hlc : upd H5 lc (.lst (lot.map V.str)) lc = some (.lst (lot.map V.str)) := upd_same
      have hcc6 := hcc.same m6
      have hq6 := m6 _ _ (m5 _ _ hq4)
      have sm6 := sm5.trans m6
      have le := isum_le wok lok.nd lok.sub
      obtain ⟨z1, z2, z3, z4⟩ := bnum_ok (R := R) wok fok le (show lot.length ≤ 1000 by have := lok.len; omega)
      have en : bnum W R F lot = ((bnum W R F lot).toNat : Int) := (Int.toNat_of_nonneg z1).symm
      have ed : bden W F = ((bden W F).toNat : Int) := (Int.toNat_of_nonneg (by omega)).symm
      refine ⟨s, c, cc, lc, W, R, F, lot, rfl, hs.same sm6, hc.same sm6, hcc6, .inl (.inl (.inl hlc)), wok, fok, rnd, rin, wr, fun t ht => wr t (lok.sub t ht), by have := lok.len; omega, le, fun x H7 m7 hx7 => ?_⟩
      have hq7 := m7 _ _ hq6
      refine ⟨_, rfl, q, _, _, _, rfl, rfl, .inl (.inl hq7), rfl, _, rfl, q, _, _, _, rfl, rfl, .inl (.inl hq7), rfl, x, (bnum W R F lot).toNat, (bden W F).toNat, ?_, hx7, by omega, by rw [← ed]; exact z4.mono (by decide), fun H8 m8 => ⟨true, rfl, iteF ?_⟩⟩
      · show [V.ref x, .int (bnum W R F lot), .int (bden W F)] = _
        rw [← en, ← ed]
      have sm8 := (sm6.trans m7).trans m8
      have hq8 := m8 _ _ hq7
      have hft8 := sm8 _ _ hft
      refine ⟨_, rfl, q, _, _, _, rfl, rfl, .inl (.inl hq8), rfl, _, rfl, ft, _, _, _, rfl, rfl, .inl (.inl hft8), rfl, _, _, rfl, rfl, mulW_of (z2.mono (by decide)) (bf.mono (by decide)), ?_⟩
      refine ⟨_, rfl, ft, _, _, _, rfl, rfl, .inl (.inl hft8), rfl, _, rfl, q, _, _, _, rfl, rfl, .inl (.inl hq8), rfl, _, _, rfl, rfl, mulW_of (bm.mono (by decide)) (z4.mono (by decide)), _, _, rfl, rfl, false, ?_, iteF ?_⟩
      · have := least lot lok.nd lok.sub
        exact congrArg V.bl (decide_eq_false (show ¬ bnum W R F lot * full < met * bden W F by omega))
      · exact ⟨m.trans (m4.trans (m5.trans (m6.trans (m7.trans m8)))), _, _, _, rfl⟩
    · rintro σ H3 ⟨m, _⟩
      exact hq H3 (sm.trans m)
end Km
end

section
set_option Elab.async false
set_option linter.all false
set_option maxRecDepth 100000
set_option maxHeartbeats 4000000
set_option pp.maxSteps 700
/-! The refusals. -/
namespace Km
open PySem PySem.Spec PyProof.Rows L2
variable {P : Program} {w : World} {K : PySem.W.Frag} {mg : Str → Option Value} {base : Heap}
abbrev UT (K : PySem.W.Frag) : Addr := He.ga K "UnknownText"
theorem Fob.of {CX : CXT} {k : Nat} {N ps : List Str} {sp : Sp} {st : Stmt} {m qual : Str} {p : Str × Option Str} (F : ∃ fd, FunD K m qual (defArgs st) (defBody st) (defScope st) [] [] (He.fAd K p) fd) (S : FnScope N ps (defScope st))
    (hb : ∀ (dV kV doc pm : Value) (an : Option Addr) (cdv ct : Value) (us : List Value), us.length = ps.length → bindArgs (PySem.W.fnOf m qual (defArgs st) (defBody st) (defScope st) .none kV doc pm an cdv ct) ⟨us, []⟩ = pure (ps.zip us))
    (len : ∀ vs H Q E, sp vs H Q E → vs.length = ps.length)
    (hbody : ∀ (f : Addr) (cdv : Value) (A : Around) (outer : List Env) (s : Shared) (H : Hp) (vs : List V) (Q : VK) (E : XK), Room k (A.deeper (envOfC qual (defScope st) s.heap.objs.size f cdv)) → sp vs H Q E →
      ∃ t, PSs (cxOf CX P w K mg base N qual (defScope st) f cdv A outer s H E) (defBody st) t ∧ t { nx := fun _ H' => Q .non H', rt := Q } (L2.start N vs) H) : ∃ fd, FnOk P w K mg base CX (k + 1) (He.fAd K p) fd ps sp ∧ Binds K fd ps [] := by
  obtain ⟨fd, F⟩ := F
  exact ⟨fd, F.ok S len (fun cdv A outer s H vs Q E hr h => hbody _ cdv A outer s H vs Q E hr h), F.bindsN fun kV doc pm an cdv ct us hl => hb .none kV doc pm an cdv ct us hl⟩
def spUt (K : PySem.W.Frag) : Sp := fun vs H Q _ => ∃ (a : Addr) (t : Str), vs = [.ref a, .str t] ∧ H a = some (exo a (UT K) none) ∧ ∀ dx, H dx = none → dx ≠ a → Q .non (upd (upd H dx (exd dx [("text", .str t)])) a (exo a (UT K) (some dx)))
abbrev N_UnknownText_init : List PySem.Str := ["self", "text"]
theorem sc_UnknownText_init : FnScope N_UnknownText_init ["self", "text"] (defScope s_UnknownText_init) := ⟨rfl, rfl, rfl, by decide +kernel, rfl, by decide +kernel, by decide +kernel⟩

theorem ok_ut (fx : Fx K mg) : ∃ fd, FnOk P w K mg base CX0 1 (He.ma K (UT K) "__init__") fd ["self", "text"] (spUt K) ∧ Binds K fd ["self", "text"] [] := by
  refine Fob.of (p := ("UnknownText", some "__init__")) (st := s_UnknownText_init) fx.fd_UnknownText_init sc_UnknownText_init (fun _ _ _ _ _ _ _ us hl => match us, hl with | [_, _], _ => rfl) (fun vs H Q E h => by obtain ⟨a, t, rfl, _⟩ := h; rfl) fun f cdv A outer s H vs Q E hr h => ⟨_, PSs.nox (pss_one (ps_ost (pv 0) (pv 1) rfl)), ?_⟩
  obtain ⟨a, t, rfl, ha, hq⟩ := h
  exact ⟨_, rfl, _, rfl, a, UT K, rfl, fx.oex, fx.n_UnknownText_text, .inl ⟨ha, hq⟩⟩
def spOf2 (K : PySem.W.Frag) : Sp := fun vs H Q E => spOf K vs H Q E ∨ ∃ (c : Addr) (t : Str) (R : List (Str × List Str)), vs = [.ref c, .str t] ∧ ChAt K H c R ∧ (¬ t ∈ R.map Prod.fst) ∧ ∀ d H', Same H H' → H' d = some (.xd [("text", .str t)]) → E (.ref (UT K)) (some d) H'
theorem ok_of2 (fx : Fx K mg) : Met P w K mg base (L2.CX P w) 3 (He.ga K "Changes") "of" ["self", "text"] (spOf2 K) := by
  obtain ⟨fdu, F1, hb1⟩ := ok_ut (P := P) (w := w) (base := base) fx
  refine Met.of (p := ("Changes", some "of")) (st := s_Changes_of) fx.c_Changes fx.m_Changes_of fx.fd_Changes_of sc_Changes_of (fun _ _ _ _ _ _ _ us hl => match us, hl with | [_, _], _ => rfl) (fun vs H Q E h => by rcases h with ⟨c, r, R, rfl, _⟩ | ⟨c, t, R, rfl, _⟩ <;> rfl) fun f cdv A outer s H vs Q E hr h => ⟨_, (pss_cons (ps_if (pt_cmp (pc_dnotin (hu_of hr) (pv 1) (pe_fldK (K := K) rfl (pv 0) rfl))) (pss_one (ps_raise rfl (takes_of rfl rfl rfl rfl) (pmk_oex fx.oex fx.iUT.1 fx.iUT.2.1 F1 hr hb1 .nil pass0 rfl fx.g_UnknownText (pa_cons (pv 1) pa_nil)))) pss_nil) (pss_one (ps_ret (pe_dget (hu_of hr) (pe_fldK (K := K) rfl (pv 0) rfl) (pv 1) (fun _ _ => rfl))))), ?_⟩
  rcases h with ⟨c, r, R, rfl, ⟨dx, d, hc, L, hd, hL⟩, nd, hr', hq⟩ | ⟨c, t, R, rfl, ⟨dx, d, hc, L, hd, hL⟩, hn, hE⟩
  · obtain ⟨a, va, ka⟩ := hL.get nd hr'
    refine ⟨_, rfl, _, rfl, c, _, dx, _, _, rfl, hc, fx.c_Changes, fx.n_Changes_kept, rfl, d, _, rfl, .inl ⟨_, Sum.inr r.1, .inl hd, rfl, rfl⟩, _, rfl, ?_⟩
    rw [va]
    refine iteF ?_
    exact ⟨_, rfl, c, _, dx, _, _, rfl, hc, fx.c_Changes, fx.n_Changes_kept, rfl, _, rfl, d, .ref a, rfl, .inl ⟨_, Sum.inr r.1, .inl hd, rfl, va.symm⟩, hq a ka⟩
  · refine ⟨_, rfl, _, rfl, c, _, dx, _, _, rfl, hc, fx.c_Changes, fx.n_Changes_kept, rfl, d, _, rfl, .inl ⟨_, Sum.inr t, .inl hd, rfl, rfl⟩, _, rfl, ?_⟩
    rw [skv_none (by rw [hL.keys]; exact hn)]
    refine iteT ⟨_, rfl, by show 1 ≤ 1000; decide, fun a na => ⟨a, t, rfl, upd_same, fun dx ndx dxa => ⟨rfl, dx, _, upd_same, upd_to upd_same dxa, ?_, ?_⟩⟩⟩
    · rwa [upd_ne dxa] at ndx
    · have ndx : H dx = none := by rwa [upd_ne dxa] at ndx
      refine hE dx _ (fun b o e => ?_) upd_same
      have b1 := ne_of_none e na
      have b2 := ne_of_none e ndx
      rw [upd_ne b2, del_ne b1, upd_ne b1, upd_ne b2, upd_ne b1]
      exact e
end Km
end

section
set_option Elab.async false
set_option linter.all false
set_option maxRecDepth 100000
set_option maxHeartbeats 4000000
set_option pp.maxSteps 700
/-! The refusals: known, best_writer, lot_bound. -/
namespace Km
open PySem PySem.Spec PyProof.Rows L2
variable {P : Program} {w : World} {K : PySem.W.Frag} {mg : Str → Option Value} {base : Heap}
/-- the first text that is not known -/
structure Miss (W : List (Str × Int)) (R : List (Str × List Str)) (t : Str) : Prop where
  nd : (R.map Prod.fst).Nodup
  wnd : (W.map Prod.fst).Nodup
  len : W.length < 64
  mem : t ∈ W.map Prod.fst
  out : ¬ t ∈ R.map Prod.fst
  low : ∀ u ∈ W.map Prod.fst, ltS u t → u ∈ R.map Prod.fst
def Gone (K : PySem.W.Frag) (H : Hp) (t : Str) (E : XK) : Prop := ∀ d H', Same H H' → H' d = some (.xd [("text", .str t)]) → E (.ref (UT K)) (some d) H'
def spKn2 (K : PySem.W.Frag) : Sp := fun vs H _ E => ∃ (s c : Addr) (W : List (Str × Int)) (R : List (Str × List Str)) (t : Str), vs = [.ref s, .ref c] ∧ Src K H s W ∧ ChAt K H c R ∧ Miss W R t ∧ Gone K H t E
theorem ok_kn2 (fx : Fx K mg) : Cal P w K mg base (L2.CX P w) 4 "known" ["source", "changes"] (spKn2 K) := by
  have of2 : Met P w K mg base (L2.CX P w) 3 (He.ga K "Changes") "of" ["self", "text"] (spOf2 K) := ok_of2 fx
  have met_Table_texts : Met P w K mg base CX0 1 (He.ga K "Table") "texts" ["self"] (spTx K (He.ga K "Table")) := ok_txT fx
  have met_Machine_texts : Met P w K mg base CX0 1 (He.ga K "Machine") "texts" ["self"] (spTx K (He.ga K "Machine")) := ok_txM fx
  refine Cal.of (st := s_known) fx.g_known fx.fd_known sc_known (fun _ _ _ _ _ _ _ us hl => match us, hl with | [_, _], _ => rfl) (fun vs H Q E h => by obtain ⟨s, c, W, R, t, rfl, _⟩ := h; rfl) fun f cdv A outer s H vs Q E hr h => ⟨_, (pss_one (ps_for (passes_of rfl) rfl (pi_tupK (K := K) rfl (pe_or2 (pe_mt0 met_Table_texts hr (by decide) pass0 (pv 0)) (pe_mt0 met_Machine_texts hr (by decide) pass0 (pv 0)))) (pg_name (i := 2) sc_known.nd rfl (.inl rfl)) (pss_one (ps_expr (pe_mt (E := E) of2 hr (by decide) (passes_call (takes_of rfl rfl rfl rfl) fun _ _ _ _ h => h) (pv 1) (pa_cons (pv 2) pa_nil)))))), ?_⟩
  obtain ⟨s, c, W, R, t, rfl, hs, hc, ms, hE⟩ := h
  refine src_tx hs ms.len rfl fun a ys H1 m1 ha hp hso => ?_
  have ynd : ys.Nodup := hp.nodup_iff.mpr ms.wnd
  have ylt := sorted_lt hso ynd
  obtain ⟨k, hk⟩ := List.mem_iff_getElem?.mp (hp.mem_iff.mpr ms.mem)
  refine ⟨a, rfl, ⟨_, .inl (.inl ha)⟩, for_tup (xs := ys.map V.str) (fun i σ H' => Same H H' ∧ Same H1 H' ∧ i ≤ k ∧ ∃ o, σ = [some (.ref s), some (.ref c), o]) ⟨m1, Same.refl _, Nat.zero_le _, none, rfl⟩ ?_ ?_ ?_⟩
  · rintro i σ H' _ ⟨_, m, _⟩
    exact .inl (.inl (m _ _ ha))
  · rintro i y σ H' hy ⟨m, m', hik, o, rfl⟩
    obtain ⟨u, hu, rfl⟩ := lt_map hy
    have hc' := hc.same m
    have hc2 := hc'
    obtain ⟨dx, d, e1, _⟩ := hc2
    by_cases z : i = k
    · subst z
      rw [hk] at hu
      cases hu
      exact ⟨_, rfl, c, dx, _, rfl, e1, rfl, _, rfl, .inr ⟨c, t, R, rfl, hc', ms.out, fun d H2 s2 hd => hE d H2 (m.trans s2) hd⟩⟩
    · have tin : u ∈ R.map Prod.fst := ms.low u (hp.mem_iff.mp (List.mem_of_getElem? hu)) (sorted_lt_at ylt (show i < k by omega) hu hk)
      obtain ⟨r, hr', rfl⟩ := List.mem_map.mp tin
      exact ⟨_, rfl, c, dx, _, rfl, e1, rfl, _, rfl, .inl ⟨c, r, R, rfl, hc', ms.nd, hr', fun a _ => ⟨m, m', by omega, _, rfl⟩⟩⟩
  · rintro σ H' ⟨m, _, hik, _⟩
    have := (List.getElem?_eq_some_iff.mp hk).1
    rw [List.length_map] at hik
    omega
def spBw2 (K : PySem.W.Frag) : Sp := fun vs H _ E => ∃ (s c a : Addr) (W : List (Str × Int)) (R : List (Str × List Str)) (t : Str), vs = [.ref s, .ref c, .ref a] ∧ Src K H s W ∧ ChAt K H c R ∧ Miss W R t ∧ Gone K H t E
theorem ok_bw2 (fx : Fx K mg) : Cal P w K mg base (L2.CX P w) 5 "best_writer" ["source", "changes", "finder"] (spBw2 K) := by
  have kn2 : Cal P w K mg base (L2.CX P w) 4 "known" ["source", "changes"] (spKn2 K) := ok_kn2 fx
  refine Cal.of (st := s_best_writer) fx.g_best_writer fx.fd_best_writer sc_best_writer (fun _ _ _ _ _ _ _ us hl => match us, hl with | [_, _, _], _ => rfl) (fun vs H Q E h => by obtain ⟨s, c, a, W, R, t, rfl, _⟩ := h; rfl) fun f cdv A outer s H vs Q E hr h => ⟨_, (pss_cons (ps_expr (pe_c (E := E) kn2 hr (by decide) rfl (passes_call (takes_of rfl rfl rfl rfl) fun _ _ _ _ h => h) (pa_cons (pv 0) (pa_cons (pv 1) pa_nil)))) pss_never), ?_⟩
  obtain ⟨s, c, a, W, R, t, rfl, hs, hc, ms, hE⟩ := h
  exact ⟨_, rfl, _, rfl, s, c, W, R, t, rfl, hs, hc, ms, hE⟩
def spLb2 (K : PySem.W.Frag) : Sp := fun vs H _ E => ∃ (s c : Addr) (a lo : V) (W : List (Str × Int)) (R : List (Str × List Str)) (t : Str), vs = [.ref s, .ref c, a, lo] ∧ Src K H s W ∧ ChAt K H c R ∧ Miss W R t ∧ Gone K H t E
theorem ok_lb2 (fx : Fx K mg) : Cal P w K mg base (L2.CX P w) 5 "lot_bound" ["source", "changes", "finder", "lot"] (spLb2 K) := by
  have kn2 : Cal P w K mg base (L2.CX P w) 4 "known" ["source", "changes"] (spKn2 K) := ok_kn2 fx
  refine Cal.of (st := s_lot_bound) fx.g_lot_bound fx.fd_lot_bound sc_lot_bound (fun _ _ _ _ _ _ _ us hl => match us, hl with | [_, _, _, _], _ => rfl) (fun vs H Q E h => by obtain ⟨s, c, a, lo, W, R, t, rfl, _⟩ := h; rfl) fun f cdv A outer s H vs Q E hr h => ⟨_, (pss_cons (ps_expr (pe_c (E := E) kn2 hr (by decide) rfl (passes_call (takes_of rfl rfl rfl rfl) fun _ _ _ _ h => h) (pa_cons (pv 0) (pa_cons (pv 1) pa_nil)))) pss_never), ?_⟩
  obtain ⟨s, c, a, lo, W, R, t, rfl, hs, hc, ms, hE⟩ := h
  exact ⟨_, rfl, _, rfl, s, c, W, R, t, rfl, hs, hc, ms, hE⟩
end Km
end

section
set_option Elab.async false
set_option linter.all false
set_option maxRecDepth 100000
set_option maxHeartbeats 4000000
set_option pp.maxSteps 700
/-! The law's look at one refusal. -/
namespace Km
open PySem PySem.Spec PyProof.Rows L2
variable {P : Program} {w : World} {K : PySem.W.Frag} {mg : Str → Option Value} {base : Heap}
def spRef (K : PySem.W.Frag) : Sp := fun vs H Q _ => ∃ (s c fa : Addr) (t : Str) (wr : Bool) (W : List (Str × Int)) (R : List (Str × List Str)) (F : List (Int × List Str)), vs = [.ref s, .ref c, .ref fa, .str t, .bl wr] ∧ Src K H s W ∧ ChAt K H c R ∧ FD H fa F ∧ F.length ≤ 1000 ∧ Miss W R t ∧ ∀ H', Same H H' → Q (.bl true) H'
theorem relV_ref {a : Addr} {u : Value} (h : RelV (.ref a) u) : u = .ref a := h
abbrev N_law_refused : List PySem.Str := ["_law_source_here", "_law_changes", "_law_finder_here", "_law_text_here", "_law_write", "e"]
theorem sc_law_refused : FnScope N_law_refused ["_law_source_here", "_law_changes", "_law_finder_here", "_law_text_here", "_law_write"] (defScope s_law_refused) := ⟨rfl, rfl, rfl, by decide +kernel, rfl, by decide +kernel, by decide +kernel⟩

theorem ok_ref (fx : Fx K mg) : Cal P w K mg base CX0 6 "_law_refused" ["_law_source_here", "_law_changes", "_law_finder_here", "_law_text_here", "_law_write"] (spRef K) := by
  have bw2 : Cal P w K mg base (L2.CX P w) 5 "best_writer" ["source", "changes", "finder"] (spBw2 K) := ok_bw2 fx
  have lb2 : Cal P w K mg base (L2.CX P w) 5 "lot_bound" ["source", "changes", "finder", "lot"] (spLb2 K) := ok_lb2 fx
  have cal_law_copy : Cal P w K mg base CX0 1 "_law_copy" ["_law_finder_here"] spCopy := ok_copy fx
  obtain ⟨exC, _, _, _, kM, kS⟩ := fx.excC
  refine Cal.of (st := s_law_refused) fx.g_law_refused fx.fd_law_refused sc_law_refused (fun _ _ _ _ _ _ _ us hl => match us, hl with | [_, _, _, _, _], _ => rfl) (fun vs H Q E h => by obtain ⟨s, c, fa, t, wr, W, R, F, rfl, _⟩ := h; rfl) fun f cdv A outer s H vs Q E hr h => ⟨_, PSs.nox
    (pss_cons (ps_try_sure (i := 5) (c := .ref (UT K)) rfl rfl sc_law_refused.nd rfl rfl ⟨rfl, by decide, .inl fx.g_UnknownText⟩
      (fun W pn xe tk po => pss_one (ps_if (pt_val (pv 4))
        (pss_one (ps_expr (pe_cs (Es := fun σ => WE W σ) bw2 hr (by decide) rfl (fun σ => passAt tk σ) (pa_cons (pv 0) (pa_cons (pv 1) (pa_cons (pe_c cal_law_copy hr (by decide) rfl pass0 (pa_cons (pv 2) pa_nil)) pa_nil))))))
        (pss_one (ps_expr (pe_cs (Es := fun σ => WE W σ) lb2 hr (by decide) rfl (fun σ => passAt tk σ) (pa_cons (pv 0) (pa_cons (pv 1) (pa_cons (pe_c cal_law_copy hr (by decide) rfl pass0 (pa_cons (pv 2) pa_nil)) (pa_cons (pe_tup pa_nil) pa_nil)))))))))
      (fun a oe cls d pn hz hf => pss_one (ps_ret (pe_and (pe_callB (call_isX exC hz hf) rfl fx.f_isinstance boot_isinstance (pa_cons (pv 5) (pa_cons (pe_glob (v := .ref (He.ga K "MarkError")) rfl fx.g_MarkError rfl) pa_nil)))
        (pe_and (pe_not (pe_callB (call_isX exC hz hf) rfl fx.f_isinstance boot_isinstance (pa_cons (pv 5) (pa_cons (pe_glob (v := .ref (He.ga K "Seen")) rfl fx.g_Seen rfl) pa_nil))))
          (pe_one (pe_cmpR op_eq (pe_xf fx.iUT.2.2 fx.n_UnknownText_text hz hf (pv 5)) (pv 3) (nomark _))))))))
      (pss_one (ps_ret pe_bl))), ?_⟩
  obtain ⟨s, c, fa, t, wr, W, R, F, rfl, hs, hc, hF, hl, ms, hq⟩ := h
  refine ⟨_, rfl, wr, rfl, ?_⟩
  cases wr with
  | true =>
    refine iteT ⟨_, rfl, _, rfl, _, rfl, fa, F, rfl, hF, hl, fun cc H1 m1 ncc hcc => ⟨s, c, cc, W, R, t, rfl, hs.same m1, hc.same m1, ms, fun d H2 m2 hd => ⟨fx.x_UnknownText_UnknownText, fun a na => ?_⟩⟩⟩
    exact ⟨_, rfl, _, _, true, d, _, rfl, rfl, rfl, hd, fun u hu => relV_ref hu, kM, true, rfl, iteT ⟨_, rfl, _, _, false, d, _, rfl, rfl, rfl, hd, fun u hu => relV_ref hu, kS, false, rfl, true, rfl, iteT ⟨_, rfl, rfl, rfl, d, _, .str t, rfl, hd, rfl, _, rfl, rfl, by show Q (.bl (decide (V.str t = V.str t))) H2; rw [decide_eq_true rfl]; exact hq H2 (m1.trans m2)⟩⟩⟩
  | false =>
    refine iteF ⟨_, rfl, _, rfl, _, rfl, fa, F, rfl, hF, hl, fun cc H1 m1 ncc hcc => ⟨Nat.zero_le _, fun te nte => ?_⟩⟩
    have m1 := m1.trans (same_new (o := .tup []) nte)
    refine ⟨s, c, .ref cc, .ref te, W, R, t, rfl, hs.same m1, hc.same m1, ms, fun d H2 m2 hd => ⟨fx.x_UnknownText_UnknownText, fun a na => ?_⟩⟩
    exact ⟨_, rfl, _, _, true, d, _, rfl, rfl, rfl, hd, fun u hu => relV_ref hu, kM, true, rfl, iteT ⟨_, rfl, _, _, false, d, _, rfl, rfl, rfl, hd, fun u hu => relV_ref hu, kS, false, rfl, true, rfl, iteT ⟨_, rfl, rfl, rfl, d, _, .str t, rfl, hd, rfl, _, rfl, rfl, by show Q (.bl (decide (V.str t = V.str t))) H2; rw [decide_eq_true rfl]; exact hq H2 (m1.trans m2)⟩⟩⟩
end Km
end

section
set_option Elab.async false
set_option linter.all false
set_option maxRecDepth 100000
set_option maxHeartbeats 4000000
set_option pp.maxSteps 700
/-! The law's looks at the refusals. -/
namespace Km
open PySem PySem.Spec PyProof.Rows L2
variable {P : Program} {w : World} {K : PySem.W.Frag} {mg : Str → Option Value} {base : Heap}
theorem min_fold : ∀ (xs : List Str) (x : Str), (xs.foldl (fun a y => if ltCps y.cps.toList a.cps.toList = true then y else a) x) ∈ x :: xs ∧ ∀ u ∈ x :: xs, ¬ ltS u (xs.foldl (fun a y => if ltCps y.cps.toList a.cps.toList = true then y else a) x)
  | [], x => ⟨by simp, fun u hu => by rw [List.mem_singleton.mp hu]; exact ltS_irr _⟩
  | y :: r, x => by
    show (r.foldl _ (if ltCps y.cps.toList x.cps.toList = true then y else x)) ∈ _ ∧ _
    obtain ⟨h1, h2⟩ := min_fold r (if ltCps y.cps.toList x.cps.toList = true then y else x)
    refine ⟨?_, fun u hu => ?_⟩
    · rcases List.mem_cons.mp h1 with h | h
      · rw [h]
        split <;> simp
      · exact List.mem_cons_of_mem _ (List.mem_cons_of_mem _ h)
    · have h3 := h2 _ List.mem_cons_self
      show ¬ ltS u (r.foldl _ (if ltCps y.cps.toList x.cps.toList = true then y else x))
      rcases List.mem_cons.mp hu with rfl | hu
      · by_cases z : ltCps y.cps.toList u.cps.toList = true
        · rw [if_pos z] at h3 ⊢
          intro h4
          exact h3 (ltS_trans z h4)
        · rw [if_neg z] at h3 ⊢
          exact h3
      · rcases List.mem_cons.mp hu with rfl | hu
        · by_cases z : ltCps u.cps.toList x.cps.toList = true
          · rw [if_pos z] at h3 ⊢
            exact h3
          · rw [if_neg z] at h3 ⊢
            exact leS_trans h3 z
        · exact h2 u (List.mem_cons_of_mem _ hu)
theorem min_ok (x : Str) (xs : List Str) : PySem.W.minOf x xs ∈ x :: xs ∧ ∀ u ∈ x :: xs, ¬ ltS u (PySem.W.minOf x xs) := by
  have e : PySem.W.minOf x xs = xs.foldl (fun a y => if ltCps y.cps.toList a.cps.toList = true then y else a) x := by
    unfold PySem.W.minOf
    congr 1
    funext a y
    show (if decide (y.cps.toList < a.cps.toList) = true then y else a) = _
    rw [← ltCps_eq]
  rw [e]
  exact min_fold xs x
def spRfs (K : PySem.W.Frag) : Sp := fun vs H Q _ => ∃ (H0 : Hp) (p s d fa : Addr) (W : List (Str × Int)) (R : List (Str × List Str)) (F : List (Int × List Str)), vs = [.ref p, .ref s, .ref d, .ref fa] ∧ Same H0 H ∧ H0 p = none ∧ St3 p H ∧ Src K H0 s W ∧ Rdb H0 d R ∧ FD H0 fa F ∧ WOk W ∧ FOk F ∧
  R.map Prod.fst = W.map Prod.fst ∧ (∀ r ∈ R, r.2.length ≤ 40) ∧ ∀ H', Same H0 H' → Q (.bl true) H'
abbrev N_law_refusals_fit : List PySem.Str := ["_law_stream_here", "_law_source_here", "_law_readable_here", "_law_finder_here", "_law_texts", "_law_gone", "_law_text_here", "_law_changes", "_law_first"]
theorem sc_law_refusals_fit : FnScope N_law_refusals_fit ["_law_stream_here", "_law_source_here", "_law_readable_here", "_law_finder_here"] (defScope s_law_refusals_fit) := ⟨rfl, rfl, rfl, by decide +kernel, rfl, by decide +kernel, by decide +kernel⟩
theorem ok_rfs (fx : Fx K mg) : Cal P w K mg base CX0 7 "_law_refusals_fit" ["_law_stream_here", "_law_source_here", "_law_readable_here", "_law_finder_here"] (spRfs K) := by
  have cal_law_draw : Cal P w K mg base CX0 1 "_law_draw" ["_law_stream_here", "_law_many"] spDraw := ok_draw fx
  have cal_law_refused : Cal P w K mg base CX0 6 "_law_refused" ["_law_source_here", "_law_changes", "_law_finder_here", "_law_text_here", "_law_write"] (spRef K) := ok_ref fx
  have mak_Changes : Mak P w K mg base CX0 1 "Changes" (He.ga K "Changes") ["self", "rows"] (spChI K) := ok_chI fx
  refine Cal.of (st := s_law_refusals_fit) fx.g_law_refusals_fit fx.fd_law_refusals_fit sc_law_refusals_fit (fun _ _ _ _ _ _ _ us hl => match us, hl with | [_, _, _, _], _ => rfl) (fun vs H Q E h => by obtain ⟨H0, p, s, d, fa, W, R, F, rfl, _⟩ := h; rfl) fun f cdv A outer s H vs Q E hr h => ⟨_, PSs.nox (pss_cons (ps_set (i := 4) sc_law_refusals_fit.nd rfl (.inl rfl) (pe_callTy (call_list_dK rfl) rfl fx.f_list boot_list (pa_cons (pv 2) pa_nil))) (pss_cons (ps_set (i := 5) sc_law_refusals_fit.nd rfl (.inr rfl) (pe_lst (pa_cons (pe_ix (ix_listK (K := K) rfl) (pv 4) (pe_c cal_law_draw hr (by decide) rfl pass0 (pa_cons (pv 0) (pa_cons (pe_callB (call_lenK (K := K) rfl) rfl fx.f_len boot_len (pa_cons (pv 4) pa_nil)) pa_nil))) (fun _ _ => rfl)) pa_nil))) (pss_cons (ps_set (i := 5) sc_law_refusals_fit.nd rfl (.inr rfl) (pe_op op_cat (pv 5) (pe_lc (own := [("_law_text_here", 6)]) rfl sc_law_refusals_fit.nd (pi_listK (K := K) rfl (pv 4)) (blkOk_by (N := N_law_refusals_fit) (sc := defScope s_law_refusals_fit) (by decide +kernel)) (fun _ _ _ _ _ => (pg_name (i := 6) sc_law_refusals_fit.nd rfl (.inl rfl))) (fun _ _ _ _ _ => (pts_one (pt_cmpR op_eq (pe_c cal_law_draw hr (by decide) rfl pass0 (pa_cons (pv 0) (pa_cons pe_int pa_nil))) pe_int (nomark _)))) (fun _ _ _ _ _ => (pv 6))))) (pss_cons (ps_set (i := 7) sc_law_refusals_fit.nd rfl (.inl rfl) (pe_mk mak_Changes hr (by decide) rfl pass0 (pa_cons (pe_lc (own := [("_law_text_here", 6)]) rfl sc_law_refusals_fit.nd (pi_listK (K := K) rfl (pv 4)) (blkOk_by (N := N_law_refusals_fit) (sc := defScope s_law_refusals_fit) (by decide +kernel)) (fun _ _ _ _ _ => (pg_name (i := 6) sc_law_refusals_fit.nd rfl (.inl rfl))) (fun _ _ _ _ _ => (pts_one (pt_cmpR (op_notIn_seqK (K := K) rfl) (pv 6) (pv 5) rfl))) (fun _ _ _ _ _ => (pe_tup (pa_cons (pv 6) (pa_cons (pe_callTy (call_list_ofK (K := K) rfl) rfl fx.f_list boot_list (pa_cons (pe_dget (hu_of hr) (pv 2) (pv 6) (fun _ _ => rfl)) pa_nil)) pa_nil))))) pa_nil))) (pss_cons (ps_set (i := 8) sc_law_refusals_fit.nd rfl (.inl rfl) (pe_callB (cr_minS rfl hr) rfl fx.f_min boot_min (pa_cons (pv 5) pa_nil))) (pss_one (ps_ret (pe_and (pe_c cal_law_refused hr (by decide) rfl pass0 (pa_cons (pv 1) (pa_cons (pv 7) (pa_cons (pv 3) (pa_cons (pv 8) (pa_cons pe_bl pa_nil)))))) (pe_one (pe_c cal_law_refused hr (by decide) rfl pass0 (pa_cons (pv 1) (pa_cons (pv 7) (pa_cons (pv 3) (pa_cons (pv 8) (pa_cons pe_bl pa_nil))))))))))))))), ?_⟩
  obtain ⟨H0, p, s, d, fa, W, R, F, rfl, sm0, np0, h3, hs, hd, hF, wok, fok, rw', r40, hq⟩ := h
  have wl := wok.len
  have fl := fok.len
  have rnd : (R.map Prod.fst).Nodup := by rw [rw']; exact wok.nd
  have rl : R.length = W.length := by
    have := congrArg List.length rw'
    rwa [List.length_map, List.length_map] at this
  obtain ⟨L, hdd, hL⟩ := id hd
  refine ⟨_, rfl, d, _, rfl, sm0 _ _ hdd, fun tx ntx => ?_⟩
  rw [skv_kv, hL.keys]
  have n1 := same_upd (o := .lst ((R.map Prod.fst).map V.str)) sm0 (same_free sm0 ntx)
  have htx : Lt (upd H tx (.lst ((R.map Prod.fst).map V.str))) tx (R.map Prod.fst) := upd_same
  have h3 := h3.new (o := .lst ((R.map Prod.fst).map V.str)) ntx
  have ntx0 := same_free sm0 ntx
  generalize upd H tx (.lst ((R.map Prod.fst).map V.str)) = H1 at n1 htx h3
  have txp := st3_ne h3 htx
  have tl : (R.map Prod.fst).length = R.length := List.length_map ..
  refine ⟨_, rfl, _, rfl, _, rfl, _, R.length, rfl, .inl ⟨_, .inl (.inl htx), by rw [List.length_map, tl]⟩, p, _, rfl, by omega, by omega, h3, fun g H2 g0 g1 h32 m2 => ?_⟩
  obtain ⟨t0, ht0, et0⟩ := atI_text (ts := R.map Prod.fst) g0 (by rw [tl]; exact g1)
  have htx2 := m2 _ _ txp htx
  have n2 := same_sm n1 np0 m2
  refine ⟨tx, _, g, _, rfl, rfl, .inl (.inl htx2), et0, by show 1 ≤ sizeLine; decide, fun g1 ng1 => ?_⟩
  have n3 := same_upd (o := .lst [.str t0]) n2 (same_free n2 ng1)
  have h33 := h32.new (o := .lst [.str t0]) ng1
  have hg1 : Lt (upd H2 g1 (.lst [.str t0])) g1 [t0] := upd_same
  have htx3 := upd_at (o := .lst [.str t0]) (show H2 tx = _ from htx2) ng1
  generalize upd H2 g1 (.lst [.str t0]) = H3 at n3 h33 hg1 htx3
  have g1p := st3_ne h33 hg1
  refine ⟨_, rfl, _, rfl, tx, rfl, ⟨_, .inl (.inl htx3)⟩, fun D nD => ?_⟩
  have Dp := h33.ne nD
  have nD0 := same_free n3 nD
  have nD3 := nD
  refine lc_list (xs := (R.map Prod.fst).map V.str) (fun j H' => ∃ zs : List Str, H' D = some (.lst (zs.map V.str)) ∧ zs.Sublist ((R.map Prod.fst).take j) ∧ St3 p H' ∧ Sm p H3 H') ⟨[], upd_same, List.nil_sublist _, h33.new nD, Sm.of (same_new nD)⟩ ?_ ?_ ?_
  · rintro j H' _ ⟨zs, _, _, _, m⟩
    exact .inl (.inl (m _ _ txp htx3))
  · rintro j y H4 hy ⟨zs, hD, hzs, h34, m⟩
    obtain ⟨t, ht, rfl⟩ := lt_map hy
    have hj : j < (R.map Prod.fst).length := (List.getElem?_eq_some_iff.mp ht).1
    have zl : zs.length ≤ 24 := Nat.le_trans hzs.length_le (by rw [List.length_take]; omega)
    refine ⟨rfl, _, rfl, p, _, rfl, by decide, by decide, h34, fun v H5 v0 v1 h35 m4 => ?_⟩
    have hD4 := m4 _ _ Dp hD
    refine ⟨rfl, _, rfl, ite2 (fun _ => ⟨_, rfl, _, hD4, small1000 (by rw [List.length_map]; omega), zs ++ [t], ?_, ?_, h35.to (Ne.symm Dp), (m.trans m4).upd nD3⟩) fun _ => ⟨zs, hD4, hzs.trans (List.take_sublist_take_left (Nat.le_succ j)), h35, m.trans m4⟩⟩
    · rw [upd_same, map_snoc]
    · rw [take_snoc ht]
      exact hzs.append (List.Sublist.refl _)
  rintro H4 ⟨zs, hD, hzs, h34, m4⟩
  rw [List.length_map, List.take_length] at hzs
  have zl : zs.length ≤ 24 := Nat.le_trans hzs.length_le (by omega)
  have hg4 := m4 _ _ g1p hg1
  have htx4 := m4 _ _ txp htx3
  have n4 := same_sm n3 np0 m4
  refine ⟨g1, D, _, _, rfl, rfl, hg4, hD, line16 (by rw [List.length_map, List.length_map]; show 1 + _ ≤ _; omega), fun gl ngl => ?_⟩
  obtain ⟨gone, hgone⟩ : ∃ l, l = t0 :: zs := ⟨_, rfl⟩
  have gsub : ∀ u ∈ gone, u ∈ R.map Prod.fst := fun u hu => by
    rw [hgone] at hu
    rcases List.mem_cons.mp hu with rfl | hu
    · exact ht0
    · exact hzs.subset hu
  have egl : [t0].map V.str ++ zs.map V.str = gone.map V.str := by rw [hgone]; rfl
  rw [egl]
  have n5 := same_upd (o := .lst (gone.map V.str)) n4 (same_free n4 ngl)
  have hgl : Lt (upd H4 gl (.lst (gone.map V.str))) gl gone := upd_same
  have htx5 := upd_at (o := .lst (gone.map V.str)) (show H4 tx = _ from htx4) ngl
  generalize upd H4 gl (.lst (gone.map V.str)) = H5 at n5 hgl htx5
  -- the changes of the rest
  refine ⟨_, rfl, tx, rfl, ⟨_, .inl (.inl htx5)⟩, fun D2 nD2 => ?_⟩
  refine lc_list (xs := (R.map Prod.fst).map V.str) (fun j H' => ∃ M : List (Addr × Addr), H' D2 = some (.lst (M.map fun e => V.ref e.1)) ∧ All2 (fun e r => H' e.1 = some (.tup [.str r.1, .ref e.2]) ∧ Lt H' e.2 r.2 ∧ e.2 ≠ D2) M ((R.take j).filter fun r => !decide (r.1 ∈ gone)) ∧ Same H5 H') ⟨[], upd_same, All2.nil, same_new nD2⟩ ?_ ?_ ?_
  · rintro j H' _ ⟨_, _, _, m⟩
    exact .inl (.inl (m _ _ htx5))
  · rintro j y H6 hy ⟨M, hD2, hM, m⟩
    obtain ⟨t, ht, rfl⟩ := lt_map hy
    rw [List.getElem?_map] at ht
    obtain ⟨r, hr, rfl⟩ := Option.map_eq_some_iff.mp ht
    have hj : j < R.length := (List.getElem?_eq_some_iff.mp hr).1
    refine ⟨rfl, _, rfl, _, rfl, gl, _, rfl, .inl (.inl (.inl (m _ _ hgl))), rfl, flat_strs gone, _, rfl, ?_⟩
    rw [if_pos rfl, inV_str]
    have Ml : M.length ≤ 24 := by
      rw [hM.1]
      exact Nat.le_trans (List.length_filter_le _ _) (by rw [List.length_take]; omega)
    refine ite2 (fun z => ?_) fun z => ?_
    · obtain ⟨ra, dg, hra⟩ := (hd.same (n5.trans m)).get rnd (List.mem_of_getElem? hr)
      refine ⟨_, rfl, _, rfl, _, rfl, d, .ref ra, rfl, dg, ra, _, rfl, .inl (.inl (.inl hra)), fun l nl => ⟨by show 2 ≤ sizeLine; decide, fun T nT => ?_⟩⟩
      have k1 := same_new (o := .lst (r.2.map V.str)) nl
      have k2 := same_upd (o := .tup [.str r.1, .ref l]) k1 (same_free k1 nT)
      have TD : T ≠ D2 := Ne.symm (ne_of_none (k1 _ _ hD2) nT)
      have lD : l ≠ D2 := Ne.symm (ne_of_none hD2 nl)
      refine ⟨_, k2 _ _ hD2, small1000 (by rw [List.length_map]; omega), M ++ [(T, l)], ?_, ?_, same_upd (m.trans k2) nD2⟩
      · rw [upd_same, List.map_append]
        rfl
      · rw [take_snoc hr, List.filter_append, List.filter_cons, if_pos z]
        exact (hM.mono fun e' r' h => ⟨upd_to (k2 _ _ h.1) (ne_of h.1 hD2 fun z => by cases z), upd_to (k2 _ _ h.2.1) h.2.2, h.2.2⟩).snoc ⟨upd_to upd_same TD, upd_to (upd_at upd_same nT) lD, lD⟩
    · refine ⟨M, hD2, ?_, m⟩
      rw [take_snoc hr, List.filter_append, List.filter_cons, if_neg z]
      simpa using hM
  rintro H6 ⟨M, hD2, hM, m6⟩
  rw [List.length_map, tl, List.take_length] at hM
  obtain ⟨R2, hR2⟩ : ∃ l, l = R.filter fun r => !decide (r.1 ∈ gone) := ⟨_, rfl⟩
  rw [← hR2] at hM
  have n6 := n5.trans m6
  have hgl6 := m6 _ _ hgl
  have R2m : ∀ u, u ∈ R2.map Prod.fst ↔ u ∈ R.map Prod.fst ∧ ¬ u ∈ gone := fun u => by
    rw [hR2]
    constructor
    · intro h
      obtain ⟨r, hr, rfl⟩ := List.mem_map.mp h
      obtain ⟨h1, h2⟩ := List.mem_filter.mp hr
      exact ⟨List.mem_map.mpr ⟨r, h1, rfl⟩, by simpa using h2⟩
    · rintro ⟨h1, h2⟩
      obtain ⟨r, hr, rfl⟩ := List.mem_map.mp h1
      exact List.mem_map.mpr ⟨r, List.mem_filter.mpr ⟨hr, by simpa using h2⟩, rfl⟩
  have R2nd : (R2.map Prod.fst).Nodup := by
    rw [hR2]
    exact (List.Sublist.map _ List.filter_sublist).nodup rnd
  have R2l : R2.length ≤ 24 := by
    rw [hR2]
    exact Nat.le_trans (List.length_filter_le _ _) (by omega)
  refine fun x dx nx ndx ne => ?_
  have nI : Same H6 (upd (upd H6 dx (.own x)) x (.ins (He.ga K "Changes") dx [])) := same_upd (same_new ndx) nx
  refine ⟨x, dx, D2, R2, rfl, upd_same, ⟨M, nI _ _ hD2, hM.mono fun e r h => ⟨nI _ _ h.1, nI _ _ h.2.1⟩⟩, R2nd, fun r hr => ?_, by omega, fun H7 kd s7 hx7 hkd => ⟨rfl, ?_⟩⟩
  · rw [hR2] at hr
    have := r40 r (List.mem_filter.mp hr).1
    omega
  have m7 : Same H6 H7 := fun b o e => s7 b o (fun z => by rw [z, nx] at e; cases e) (nI b o e)
  have n7 := n6.trans m7
  have hch : ChAt K H7 x R2 := ⟨dx, kd, hx7, hkd⟩
  obtain ⟨mo1, mo2⟩ := min_ok t0 zs
  rw [← hgone] at mo1 mo2
  refine ⟨_, rfl, gl, t0, zs, rfl, .inl (.inl (by rw [← hgone]; exact m7 _ _ hgl6)), ?_⟩
  have ms : Miss W R2 (PySem.W.minOf t0 zs) := ⟨R2nd, wok.nd, by omega, by rw [← rw']; exact gsub _ mo1, fun h => ((R2m _).mp h).2 mo1, fun u hu hlt => (R2m u).mpr ⟨by rw [rw']; exact hu, fun h => mo2 u h hlt⟩⟩
  refine ⟨_, rfl, _, rfl, _, rfl, _, rfl, s, x, fa, _, true, W, R2, F, rfl, hs.same n7, hch, hF.same n7, by omega, ms, fun H8 m8 => ⟨true, rfl, iteT ?_⟩⟩
  refine ⟨_, rfl, _, rfl, _, rfl, _, rfl, s, x, fa, _, false, W, R2, F, rfl, hs.same (n7.trans m8), hch.same m8, hF.same (n7.trans m8), by omega, ms, fun H9 m9 => hq H9 ((n7.trans m8).trans m9)⟩
end Km
end

section
set_option Elab.async false
set_option linter.all false
set_option maxRecDepth 100000
set_option maxHeartbeats 4000000
set_option pp.maxSteps 700
/-! The law, whole: the body of its loop. -/
namespace Km
open PySem PySem.Spec PyProof.Rows L2
variable {P : Program} {w : World} {K : PySem.W.Frag} {mg : Str → Option Value} {base : Heap}
theorem All2.uncons {α β : Type} {F : α → β → Prop} {a : α} {as : List α} {b : β} {bs : List β} (h : All2 F (a :: as) (b :: bs)) : F a b ∧ All2 F as bs :=
  ⟨h.2 0 a b rfl rfl, by have := h.1; simpa using this, fun i x y hx hy => h.2 (i + 1) x y (by simpa using hx) (by simpa using hy)⟩
def cpD (f : Int × List Str) : PyData := .list [.int f.1, .list (f.2.map PyData.str)]
theorem dp_cp {H : Hp} : ∀ (L : List (Addr × Addr)) (F : List (Int × List Str)), All2 (fun e f => H e.1 = some (.lst [.int f.1, .ref e.2]) ∧ Lt H e.2 f.2) L F → DpAll K H (L.map fun e => V.ref e.1) (F.map cpD)
  | [], [], _ => .nil
  | [], _ :: _, h => by have := h.1; simp at this
  | _ :: _, [], h => by have := h.1; simp at this
  | e :: L, f :: F, h => by
    obtain ⟨⟨h1, h2⟩, h3⟩ := h.uncons
    exact .cons (.lst (.inl (.inl h1)) (.cons (.int _) (.cons (.lst (.inl (.inl h2)) (dp_strs f.2)) .nil))) (dp_cp L F h3)
theorem pl_cp : ∀ F : List (Int × List Str), PyData.plainAll (F.map cpD) = true
  | [] => rfl
  | f :: F => by
    show ((true && (PyData.plainAll (f.2.map PyData.str) && true)) && PyData.plainAll (F.map cpD)) = true
    rw [pl_cp F, pl_strs]
    rfl
theorem dep_cp : ∀ F : List (Int × List Str), PyData.depthAll (F.map cpD) ≤ 2
  | [] => Nat.zero_le _
  | f :: F => by
    show max ((max 0 (max (PyData.depthAll (f.2.map PyData.str) + 1) 0)) + 1) (PyData.depthAll (F.map cpD)) ≤ 2
    rw [dep_strs]
    have := dep_cp F
    omega
theorem ne_cps {H : Hp} {a b : Addr} {F : List (Int × List Str)} {Q : VK} (ha : CP H a F) (hb : CP H b F) (hq : Q (.bl false) H) : rNeP K (.ref a) (.ref b) H Q := by
  obtain ⟨L, h1, h2⟩ := ha
  obtain ⟨M, h3, h4⟩ := hb
  refine ⟨.list (F.map cpD), .list (F.map cpD), .lst (.inl (.inl h1)) (dp_cp L F h2), .lst (.inl (.inl h3)) (dp_cp M F h4), pl_cp F, pl_cp F, ?_, ?_⟩
  · show PyData.depthAll (F.map cpD) + 1 ≤ 64
    have := dep_cp F
    omega
  · rw [SeqAt.eqv_refl_plain _ (show (PyData.list (F.map cpD)).plain = true from pl_cp F)]
    exact hq
theorem cross_low {a b c d : Nat} (hb : 0 < b) (hd : 0 < d) (h : a * d = c * b) : a / Nat.gcd a b = c / Nat.gcd c d ∧ b / Nat.gcd a b = d / Nat.gcd c d := by
  have e1 : a / Nat.gcd a b = (d * a) / Nat.gcd (d * a) (d * b) := (low_mul d a b hd).symm
  have e2 : c / Nat.gcd c d = (b * c) / Nat.gcd (b * c) (b * d) := (low_mul b c d hb).symm
  have e3 : b / Nat.gcd a b = (d * b) / Nat.gcd (d * a) (d * b) := by rw [Nat.gcd_mul_left, Nat.mul_div_mul_left _ _ hd]
  have e4 : d / Nat.gcd c d = (b * d) / Nat.gcd (b * c) (b * d) := by rw [Nat.gcd_mul_left, Nat.mul_div_mul_left _ _ hb]
  have h1 : d * a = b * c := by rw [Nat.mul_comm d, h, Nat.mul_comm]
  rw [e1, e2, e3, e4, h1, Nat.mul_comm d b]
  exact ⟨rfl, rfl⟩
def whBody (K : PySem.W.Frag) : TS :=
    tSeq
      (tAsg
        (tCall spFinder [] E0
          (tCons
            (tCall (spStr K) [] E0
              (tCons (tVar 0) (tCons (tOp (rI0 fun i j => V.int (i + j)) (tC (V.int 2)) (tVar 7)) tNil)))
            (tCons (tVar 3) (tCons (tVar 4) tNil))))
        (gName 8))
      (tSeq
        (tIfS
          (tNot
            (tB
              (tCall (spRfs K) [] E0
                (tCons
                  (tCall (spStr K) [] E0
                    (tCons (tVar 0) (tCons (tOp (rI0 fun i j => V.int (i + j)) (tC (V.int 4)) (tVar 7)) tNil)))
                  (tCons (tVar 1) (tCons (tVar 3) (tCons (tVar 8) tNil)))))))
          (tRet (tC (V.bl false))) tNext)
        (tSeq (tAsg (tCall spCopy [] E0 (tCons (tVar 8) tNil)) (gName 9))
          (tSeq (tAsg (tCall (spBw K) [] E0 (tCons (tVar 1) (tCons (tVar 5) (tCons (tVar 9) tNil)))) (gName 10))
            (tSeq
              (tIfS (tTest (tOp (rNeP K) (tVar 9) (tCall spCopy [] E0 (tCons (tVar 8) tNil)))) (tRet (tC (V.bl false)))
                tNext)
              (tSeq
                (tIfS
                  (tOr (tNot (tB (tCB (rIsi K) (tCons (tVar 10) (tCons (tC (V.ty "tuple")) tNil)))))
                    (tOr (tTest (tOp rNe (tCB (rLn K) (tCons (tVar 10) tNil)) (tC (V.int 2))))
                      (tNot
                        (tB
                          (tCall spLotF [] E0 (tCons (tOp (rIxT K) (tVar 10) (tC (V.int 1))) (tCons (tVar 2) tNil)))))))
                  (tRet (tC (V.bl false))) tNext)
                (tSeq
                  (tAsg
                    (tCall (spEnt K) [] E0
                      (tCons (tOp (rIxT K) (tVar 10) (tC (V.int 0))) (tCons (tVar 2) (tCons (tVar 8) tNil))))
                    (gName 11))
                  (tSeq
                    (tIfS
                      (tOr (tB (tIsN (tVar 11)))
                        (tOr (tNot (tB (tCall (spPf K) [] E0 (tCons (tVar 11) (tCons (tVar 8) tNil)))))
                          (tNot (tB (tCall (spUns K) [] E0 (tCons (tVar 11) (tCons (tVar 2) tNil)))))))
                      (tRet (tC (V.bl false))) tNext)
                    (tSeq
                      (tAsg
                        (tCB (rSum K)
                          (tCons
                            (tLc (iTup K (tVar 11)) (gName 13)
                              (tB
                                (tCall (spReach K) [] E0
                                  (tCons (tOp (rIxT K) (tVar 13) (tC (V.int 2)))
                                    (tCons (tDGet (tVar 3) (tOp (rIxT K) (tVar 13) (tC (V.int 1)))) tNil))))
                              (tOp (rIxT K) (tVar 13) (tC (V.int 0)))
                              [13])
                            tNil))
                        (gName 12))
                      (tSeq
                        (tAsg
                          (tCB (rSum K)
                            (tCons
                              (tLc (iTup K (tVar 11)) (gName 13) tYes (tOp (rIxT K) (tVar 13) (tC (V.int 0)))
                                [13])
                              tNil))
                          (gName 14))
                        (tSeq
                          (tAsg
                            (tCall (spBound K) [] E0
                              (tCons (tVar 2)
                                (tCons (tVar 3) (tCons (tVar 8) (tCons (tOp (rIxT K) (tVar 10) (tC (V.int 1))) tNil)))))
                            (gName 15))
                          (tSeq
                            (tIfS
                              (tTest
                                (tOp rNe
                                  (tOp (rI CMulW fun i j => V.int (i * j)) (tVar 12)
                                    (tOp (rIxT K) (tVar 15) (tC (V.int 1))))
                                  (tOp (rI CMulW fun i j => V.int (i * j)) (tOp (rIxT K) (tVar 15) (tC (V.int 0)))
                                    (tVar 14))))
                              (tRet (tC (V.bl false))) tNext)
                            (tSeq
                              (tIfS
                                (tNot
                                  (tB
                                    (tCall (spIsSh K) [] E0
                                      (tCons
                                        (tCall (spFound K) [] E0
                                          (tCons (tVar 5) (tCons (tOp (rIxT K) (tVar 10) (tC (V.int 0))) tNil)))
                                        (tCons (tVar 12) (tCons (tVar 14) tNil))))))
                                (tRet (tC (V.bl false))) tNext)
                              (tSeq
                                (tIfS
                                  (tNot
                                    (tB
                                      (tCall (spIsSh K) [] E0
                                        (tCons
                                          (tCall (spLb K) [] E0
                                            (tCons (tVar 1)
                                              (tCons (tVar 5)
                                                (tCons (tCall spCopy [] E0 (tCons (tVar 8) tNil))
                                                  (tCons (tOp (rIxT K) (tVar 10) (tC (V.int 1))) tNil)))))
                                          (tCons (tVar 12) (tCons (tVar 14) tNil))))))
                                  (tRet (tC (V.bl false))) tNext)
                                (tSeq
                                  (tAsg
                                    (tCall (spStr K) [] E0
                                      (tCons (tVar 0)
                                        (tCons (tOp (rI0 fun i j => V.int (i + j)) (tC (V.int 6)) (tVar 7)) tNil)))
                                    (gName 16))
                                  (tIfS
                                    (tNot
                                      (tB
                                        (tCall (spLots K) [] E0
                                          (tCons (tVar 16)
                                            (tCons (tVar 1)
                                              (tCons (tVar 5)
                                                (tCons (tVar 2)
                                                  (tCons (tVar 3)
                                                    (tCons (tVar 8)
                                                      (tCons (tTup (tCons (tVar 12) (tCons (tVar 14) tNil)))
                                                        tNil))))))))))
                                    (tRet (tC (V.bl false))) tNext)))))))))))))))
theorem wh_body (fx : Fx K mg) {a s wa d lo c : Addr} {W : List (Str × Int)} {R : List (Str × List Str)} {os : List Str} {ns : List Int} {H7 H8 : Hp} {D : L2.Ends} {i : Nat} {o8 o9 o10 o11 o12 o14 o15 o16 : Option V}
    (m8 : Same H7 H8) (hi : i < 2) (hsq : SqL K H7 a (ns.map V.int)) (hnl : ns.length < 64) (hs : Src K H7 s W) (hwa : H7 wa = some (.dK (skv V.int W))) (hd : Rdb H7 d R) (hlo : Lt H7 lo os) (hch : ChAt K H7 c R) (wok : WOk W)
    (rkeys : R.map Prod.fst = W.map Prod.fst) (rok : ROk os R) (ond : os.Nodup) (ol : os.length ≤ 40)
    (hD : ∀ σ' H', Same H7 H' → (∃ (o7 o8 o9 o10 o11 o12 o14 o15 o16 : Option V), σ' = [some (.ref a), some (.ref s), some (.ref wa), some (.ref d), some (.ref lo), some (.ref c), none, o7, o8, o9, o10, o11, o12, none, o14, o15, o16]) → D.nx σ' H') :
    whBody K D [some (.ref a), some (.ref s), some (.ref wa), some (.ref d), some (.ref lo), some (.ref c), none, some (.int (i : Nat)), o8, o9, o10, o11, o12, none, o14, o15, o16] H8 := by
  have wl := wok.len
  have rnd : (R.map Prod.fst).Nodup := by rw [rkeys]; exact wok.nd
  have rl : R.length = W.length := by
    have := congrArg List.length rkeys
    rwa [List.length_map, List.length_map] at this
  have rin : ∀ r ∈ R, r.1 ∈ r.2 := fun r hr => (rok r hr).1
  have wr : ∀ t ∈ W.map Prod.fst, t ∈ R.map Prod.fst := fun t h => by rw [rkeys]; exact h
  have r40 : ∀ r ∈ R, r.2.length ≤ 40 := fun r hr => Nat.le_trans (len_sub (rok r hr).2.1 (rok r hr).2.2) ol
  -- the finder
  refine ⟨_, rfl, _, rfl, _, _, rfl, rfl, a, ns, 2 + i, rfl, m8.seq hsq, hnl, by omega, fun p1 H9 np1 m9 h39 => ⟨_, rfl, _, rfl, p1, d, lo, R, os, rfl, h39, hd.same (m8.trans m9), rnd, by omega, by omega, rok, m9 _ _ (m8 _ _ hlo), ond, ol, fun fa F H10 hF fok sm10 => ?_⟩⟩
  have m10 := m8.trans (same_sm m9 np1 sm10)
  have fl := fok.len
  -- the refusals
  refine ⟨_, rfl, _, rfl, _, _, rfl, rfl, a, ns, 4 + i, rfl, m10.seq hsq, hnl, by omega, fun p2 H11 np2 m11 h311 => ⟨_, rfl, _, rfl, _, rfl, H10, p2, s, d, fa, W, R, F, rfl, m11, np2, h311, hs.same m10, hd.same m10, hF, wok, fok, rkeys, r40, fun H12 n12 => ⟨true, rfl, iteF ?_⟩⟩⟩
  have m12 := m10.trans n12
  have hF12 := hF.same n12
  -- best_writer
  refine ⟨_, rfl, fa, F, rfl, hF12, by omega, fun cc H13 m13 ncc hcc => ?_⟩
  have m13' := m12.trans m13
  refine ⟨_, rfl, _, rfl, _, rfl, s, c, cc, W, R, F, rfl, hs.same m13', hch.same m13', hcc, wok, fok, rnd, rin, wr, fun T H14 m lt ES lot m14 hT hm hlt bw => ?_⟩
  have m14' := m13'.trans m14
  have hF14 := (hF12.same m13).same m14
  refine ⟨_, rfl, _, rfl, fa, F, rfl, hF14, by omega, fun cc2 H15 m15 ncc2 hcc2 => ?_⟩
  have hcc15 := (hcc.same m14).same m15
  refine ne_cps hcc15 hcc2 ⟨false, rfl, iteF ?_⟩
  have m15' := m14'.trans m15
  have hT15 := m15 _ _ hT
  have hm15 := hm.same m15
  have hlt15 : Tt H15 lt lot := m15 _ _ hlt
  have hF15 := hF14.same m15
  refine ⟨_, rfl, _, _, _, _, true, rfl, .ty "tuple", .base (.tup hT15), kit_tup_tup, true, rfl, iteF ?_⟩
  refine ⟨_, rfl, _, 2, rfl, .inr ⟨_, .inl (.inl hT15), rfl⟩, rfl, false, rfl, iteF ?_⟩
  refine ⟨_, rfl, T, _, _, _, rfl, rfl, .inl (.inl hT15), rfl, _, rfl, lt, wa, W, lot, rfl, hlt15, m15' _ _ hwa, wok, bw.lts, bw.los, true, rfl, iteF ?_⟩
  -- the entries
  refine ⟨_, rfl, T, _, _, _, rfl, rfl, .inl (.inl hT15), rfl, _, rfl, _, rfl, m, wa, fa, W, F, ES, rfl, hm15, m15' _ _ hwa, hF15, wok, fok, bw.eok, bw.sub, bw.len, bw.one, fun te H16 m16 hte => ?_⟩
  have m16' := m15'.trans m16
  have hF16 := hF15.same m16
  refine ⟨_, rfl, false, rfl, iteF ?_⟩
  obtain ⟨Bs, b1, b2⟩ := bw.bks
  refine ⟨_, rfl, _, rfl, te, fa, F, ES, Bs, rfl, hte, hF16, fok, bw.eok, ⟨b1, b2⟩, fun H17 m17 => ⟨true, rfl, iteF ?_⟩⟩
  have m17' := m16'.trans m17
  refine ⟨_, rfl, _, rfl, te, wa, W, ES, rfl, hte.same m17, m17' _ _ hwa, wok, bw.eok, bw.uns, fun H18 m18 => ⟨true, rfl, iteF ?_⟩⟩
  have m18' := m17'.trans m18
  have hF18 := (hF16.same m17).same m18
  have hte18 := (hte.same m17).same m18
  have hT18 := m18 _ _ (m17 _ _ (m16 _ _ hT15))
  have hm18 := ((hm15.same m16).same m17).same m18
  have hlt18 : Tt H18 lt lot := m18 _ _ (m17 _ _ (m16 _ _ hlt15))
  have eok := bw.eok
  have elen := eok.len
  obtain ⟨LE, hteL, hLE⟩ := id hte18
  have hd18 := hd.same m18'
  refine ⟨_, rfl, te, rfl, ⟨_, .inl (.inl hteL)⟩, fun D1 nD1 => ?_⟩
  refine lc_tup (K := K) (a := te) (xs := LE.map fun e => V.ref e.1) (fun j H' => H' = upd H18 D1 (.lst ((((ES.take j).filter (fitE R)).map Prod.fst).map V.int))) rfl ?_ ?_ ?_
  · rintro j H' _ rfl
    exact .inl (.inl (upd_at hteL nD1))
  · rintro j y H' hy rfl
    rw [List.getElem?_map] at hy
    obtain ⟨e, he, rfl⟩ := Option.map_eq_some_iff.mp hy
    obtain ⟨x, hx, g1, g2⟩ := hLE.r he
    have hil : j < ES.length := (List.getElem?_eq_some_iff.mp hx).1
    have xin := wr _ (bw.sub x (List.mem_of_getElem? hx))
    obtain ⟨r, hr, er⟩ := List.mem_map.mp xin
    have g3 := upd_at (o := .lst ((((ES.take j).filter (fitE R)).map Prod.fst).map V.int)) g1 nD1
    obtain ⟨ra, dg, hra⟩ := (hd18.same (same_new (o := .lst ((((ES.take j).filter (fitE R)).map Prod.fst).map V.int)) nD1)).get rnd hr
    rw [er] at dg
    have ef : fitsR x.2.2 r.2 = fitE R x := by
      unfold fitE
      rw [← er, rdo_of rnd hr]
    have hfl : (List.filter (fitE R) (ES.take j)).length ≤ 600 := Nat.le_trans (List.length_filter_le _ _) (by rw [List.length_take]; omega)
    refine ⟨rfl, _, rfl, e.1, _, _, _, rfl, rfl, .inl (.inl g3), rfl, _, rfl, _, rfl, e.1, _, _, _, rfl, rfl, .inl (.inl g3), rfl, d, .ref ra, rfl, dg, e.2, ra, x.2.2, r.2, rfl, .inr (.inl (.inl (upd_at g2 nD1))), hra, _, rfl, ?_⟩
    rw [ef]
    refine ite2 (fun z => ⟨_, rfl, e.1, _, _, _, rfl, rfl, .inl (.inl g3), rfl, _, upd_same, small1000 (by rw [List.length_map, List.length_map]; omega), ?_⟩) fun z => ?_
    · rw [upd_upd, take_snoc hx, List.filter_append, List.filter_cons, if_pos z]
      simp
    · show upd H18 D1 _ = upd H18 D1 _
      rw [take_snoc hx, List.filter_append, List.filter_cons, if_neg z]
      simp
  rintro H' rfl
  rw [List.length_map, hLE.1, List.take_length]
  refine ⟨D1, (ES.filter (fitE R)).map Prod.fst, rfl, .inl (.inl upd_same), ?_⟩
  have m19 := same_new (o := .lst (((ES.filter (fitE R)).map Prod.fst).map V.int)) nD1
  generalize upd H18 D1 (.lst (((ES.filter (fitE R)).map Prod.fst).map V.int)) = H19 at m19
  have hte19 := m19 _ _ hteL
  refine ⟨_, rfl, te, rfl, ⟨_, .inl (.inl hte19)⟩, fun D2 nD2 => ?_⟩
  refine lc_tup (K := K) (a := te) (xs := LE.map fun e => V.ref e.1) (fun j H' => H' = upd H19 D2 (.lst (((ES.take j).map Prod.fst).map V.int))) rfl ?_ ?_ ?_
  · rintro j H' _ rfl
    exact .inl (.inl (upd_at hte19 nD2))
  · rintro j y H' hy rfl
    rw [List.getElem?_map] at hy
    obtain ⟨e, he, rfl⟩ := Option.map_eq_some_iff.mp hy
    obtain ⟨x, hx, g1, g2⟩ := hLE.r he
    have hil : j < ES.length := (List.getElem?_eq_some_iff.mp hx).1
    refine ⟨rfl, _, rfl, e.1, _, _, _, rfl, rfl, .inl (.inl (upd_at (m19 _ _ g1) nD2)), rfl, _, upd_same, small1000 (by rw [List.length_map, List.length_map, List.length_take]; omega), ?_⟩
    rw [upd_upd, take_snoc hx]
    simp
  rintro H' rfl
  rw [List.length_map, hLE.1, List.take_length]
  refine ⟨D2, ES.map Prod.fst, rfl, .inl (.inl upd_same), ?_⟩
  have m20 := same_upd (o := .lst ((ES.map Prod.fst).map V.int)) m19 (same_free m19 nD2)
  generalize upd H19 D2 (.lst ((ES.map Prod.fst).map V.int)) = H20 at m20
  have n20 := m18'.trans m20
  have hF20 := hF18.same m20
  have hT20 := m20 _ _ hT18
  have hm20 := hm18.same m20
  have hlt20 : Tt H20 lt lot := m20 _ _ hlt18
  have lotnd : lot.Nodup := List.Pairwise.imp (S := (· ≠ ·)) (fun {a c} (h : ltS a c) (e : a = c) => ltS_irr c (by rw [e] at h; exact h)) bw.lts
  have lotlen : lot.length ≤ 24 := by
    have h := len_sub lotnd bw.los
    rw [List.length_map] at h
    omega
  have le := isum_le wok lotnd bw.los
  obtain ⟨z1, z2, z3, z4⟩ := bnum_ok (R := R) wok fok le (show lot.length ≤ 1000 by omega)
  have p1 := eok.esum_pos
  have p2 := metE_nonneg (R := R) eok
  have bE := eok.esum_bd
  have bM := metE_bd (R := R) eok
  refine ⟨_, rfl, _, rfl, _, rfl, _, rfl, T, _, _, _, rfl, rfl, .inl (.inl hT20), rfl, wa, d, fa, lt, W, R, F, lot, rfl, n20 _ _ hwa, hd.same n20, hF20, .inr (.inl (.inl hlt20)), wok, fok, rnd, fun t ht => ⟨bw.los t ht, wr t (bw.los t ht)⟩, by omega, fun q H21 m21 hq21 => ?_⟩
  refine ⟨_, rfl, _, rfl, q, _, _, _, rfl, rfl, .inl (.inl hq21), rfl, _, _, rfl, rfl, mulW_of (bM.mono (by decide)) (z4.mono (by decide)), ?_⟩
  refine ⟨_, rfl, q, _, _, _, rfl, rfl, .inl (.inl hq21), rfl, _, rfl, _, _, rfl, rfl, mulW_of (z2.mono (by decide)) (bE.mono (by decide)), rfl, false, ?_, iteF ?_⟩
  · refine congrArg V.bl ?_
    show (!decide (V.int (metE R ES * bden W F) = V.int (bnum W R F lot * esum ES))) = false
    rw [bw.fnd]
    simp
  have n21 := n20.trans m21
  have en : metE R ES = ((metE R ES).toNat : Int) := (Int.toNat_of_nonneg p2).symm
  have ed : esum ES = ((esum ES).toNat : Int) := (Int.toNat_of_nonneg (by omega)).symm
  have bEn : Bd 7000 ((esum ES).toNat : Int) := by rw [← ed]; exact bE.mono (by decide)
  -- found_share
  refine ⟨_, rfl, _, rfl, T, _, _, _, rfl, rfl, .inl (.inl (m21 _ _ hT20)), rfl, c, m, R, ES, rfl, hch.same n21, by omega, rnd, rin, hm20.same m21, eok, fun x hx => wr _ (bw.sub x hx), fun x H22 m22 hx22 => ⟨_, rfl, _, rfl, x, (metE R ES).toNat, (esum ES).toNat, ?_, hx22, by omega, bEn, fun H23 m23 => ⟨true, rfl, iteF ?_⟩⟩⟩
  · show [V.ref x, .int (metE R ES), .int (esum ES)] = _
    rw [← en, ← ed]
  have k23 := m22.trans m23
  have n23 := n21.trans k23
  have hT23 := k23 _ _ (m21 _ _ hT20)
  have hlt23 : Tt H23 lt lot := k23 _ _ (m21 _ _ hlt20)
  have hF23 := (hF20.same m21).same k23
  -- lot_bound
  refine ⟨_, rfl, _, rfl, _, rfl, fa, F, rfl, hF23, by omega, fun cc3 H24 m24 ncc3 hcc3 => ⟨_, rfl, T, _, _, _, rfl, rfl, .inl (.inl (m24 _ _ hT23)), rfl, s, c, cc3, lt, W, R, F, lot, rfl, hs.same (n23.trans m24), hch.same (n23.trans m24), hcc3, .inr (.inl (.inl (m24 _ _ hlt23))), wok, fok, rnd, rin, wr, fun t ht => wr t (bw.los t ht), by omega, le, fun x2 H25 m25 hx25 => ⟨_, rfl, _, rfl, x2, (metE R ES).toNat, (esum ES).toNat, ?_, ?_, by omega, bEn, fun H26 m26 => ⟨true, rfl, iteF ?_⟩⟩⟩⟩
  · show [V.ref x2, .int (metE R ES), .int (esum ES)] = _
    rw [← en, ← ed]
  · have enb : bnum W R F lot = ((bnum W R F lot).toNat : Int) := (Int.toNat_of_nonneg z1).symm
    have edb : bden W F = ((bden W F).toNat : Int) := (Int.toNat_of_nonneg (by omega)).symm
    have h := bw.fnd
    rw [en, ed, enb, edb] at h
    have h : (metE R ES).toNat * (bden W F).toNat = (bnum W R F lot).toNat * (esum ES).toNat := by exact_mod_cast h
    obtain ⟨q1, q2⟩ := cross_low (show 0 < (esum ES).toNat by omega) (show 0 < (bden W F).toNat by omega) h
    rw [q1, q2]
    exact hx25
  have n26 := (n23.trans m24).trans (m25.trans m26)
  have hF26 := (hF23.same m24).same (m25.trans m26)
  -- the lots
  refine ⟨_, rfl, _, rfl, _, _, rfl, rfl, a, ns, 6 + i, rfl, n26.seq hsq, hnl, by omega, fun p3 H27 np3 m27 h327 => ?_⟩
  refine ⟨_, rfl, _, rfl, _, rfl, _, rfl, _, rfl, _, rfl, _, rfl, _, rfl, by show 2 ≤ sizeLine; decide, fun ft nft => ?_⟩
  have nft26 := same_free m27 nft
  have k1 := same_new (o := .tup [.int (metE R ES), .int (esum ES)]) nft26
  have p3f : p3 ≠ ft := Ne.symm (h327.ne nft)
  have k2 : Same (upd H26 ft (.tup [.int (metE R ES), .int (esum ES)])) (upd H27 ft (.tup [.int (metE R ES), .int (esum ES)])) := fun b o e => by
    by_cases z : b = ft
    · rw [z, upd_same] at e ⊢
      exact e
    · rw [upd_ne z] at e ⊢
      exact m27 b o e
  refine ⟨upd H26 ft (.tup [.int (metE R ES), .int (esum ES)]), p3, s, c, wa, d, fa, ft, W, R, F, metE R ES, esum ES, rfl, k2, by rw [upd_ne p3f]; exact np3, h327.new nft, hs.same (n26.trans k1), hch.same (n26.trans k1), k1 _ _ (n26 _ _ hwa), hd.same (n26.trans k1), hF26.same k1, upd_same, wok, fok, rin, rkeys, bM, bE, bw.lst, fun H28 m28 => ⟨true, rfl, iteF ?_⟩⟩
  exact hD _ _ ((n26.trans k1).trans m28) ⟨_, _, _, _, _, _, _, _, _, rfl⟩
end Km
end

section
set_option Elab.async false
set_option linter.all false
set_option maxRecDepth 100000
set_option maxHeartbeats 4000000
set_option pp.maxSteps 700
/-! The law, whole. -/
namespace Km
open PySem PySem.Spec PyProof.Rows L2
variable {P : Program} {w : World} {K : PySem.W.Frag} {mg : Str → Option Value} {base : Heap}
def spWhole (K : PySem.W.Frag) : Sp := fun vs H Q _ => ∃ (a : Addr) (ns : List Int), vs = [.ref a] ∧ SqL K H a (ns.map V.int) ∧ ns.length < 64 ∧ ∀ H', Same H H' → Q (.bl true) H'
abbrev N_law_whole : List PySem.Str := ["_law_script", "_law_source_here", "_law_weights", "_law_readable_here", "_law_others", "_law_changes", "_law_text_here", "_law_step", "_law_finder_here", "_law_handed", "_law_told", "_law_entries_here", "_law_met", "_law_entry", "_law_full", "_law_due", "_law_stream_here"]
theorem sc_law_whole : FnScope N_law_whole ["_law_script"] (defScope s_law_whole) := ⟨rfl, rfl, rfl, by decide +kernel, rfl, by decide +kernel, by decide +kernel⟩
theorem ok_whole (fx : Fx K mg) : Cal P w K mg base CX0 8 "_law_whole" ["_law_script"] (spWhole K) := by
  have cal_best_writer : Cal P w K mg base CX0 3 "best_writer" ["source", "changes", "finder"] (spBw K) := ok_bw fx
  have cal_found_share : Cal P w K mg base CX0 4 "found_share" ["changes", "marking"] (spFound K) := ok_found fx
  have cal_law_bound : Cal P w K mg base CX0 2 "_law_bound" ["_law_weights", "_law_readable_here", "_law_finder_here", "_law_lot"] (spBound K) := ok_bound fx
  have cal_law_copy : Cal P w K mg base CX0 1 "_law_copy" ["_law_finder_here"] spCopy := ok_copy fx
  have cal_law_entries : Cal P w K mg base CX0 2 "_law_entries" ["_law_told", "_law_weights", "_law_finder_here"] (spEnt K) := ok_ent fx
  have cal_law_finder : Cal P w K mg base CX0 4 "_law_finder" ["_law_stream_here", "_law_readable_here", "_law_others"] spFinder := ok_finder fx
  have cal_law_is_share : Cal P w K mg base CX0 2 "_law_is_share" ["_law_told", "_law_over", "_law_under"] (spIsSh K) := ok_isShare fx
  have cal_law_lot_fits : Cal P w K mg base CX0 1 "_law_lot_fits" ["_law_told", "_law_weights"] spLotF := ok_lotF fx
  have cal_law_lots_fit : Cal P w K mg base CX0 6 "_law_lots_fit" ["_law_stream_here", "_law_source_here", "_law_changes", "_law_weights", "_law_readable_here", "_law_finder_here", "_law_found"] (spLots K) := ok_lots fx
  have cal_law_places_fit : Cal P w K mg base CX0 1 "_law_places_fit" ["_law_entries_here", "_law_finder_here"] (spPf K) := ok_pf fx
  have cal_law_reaches : Cal P w K mg base CX0 1 "_law_reaches" ["_law_accused", "_law_read"] (spReach K) := ok_reach fx
  have cal_law_readable : Cal P w K mg base CX0 4 "_law_readable" ["_law_stream_here", "_law_weights"] spReadable := ok_readable fx
  have cal_law_refusals_fit : Cal P w K mg base CX0 7 "_law_refusals_fit" ["_law_stream_here", "_law_source_here", "_law_readable_here", "_law_finder_here"] (spRfs K) := ok_rfs fx
  have cal_law_source : Cal P w K mg base CX0 5 "_law_source" ["_law_stream_here"] (spSource K) := ok_source fx
  have cal_law_stream : Cal P w K mg base CX0 1 "_law_stream" ["_law_script", "_law_at"] (spStr K) := ok_stream fx
  have cal_law_unseen : Cal P w K mg base CX0 1 "_law_unseen" ["_law_entries_here", "_law_weights"] (spUns K) := ok_uns fx
  have cal_lot_bound : Cal P w K mg base CX0 5 "lot_bound" ["source", "changes", "finder", "lot"] (spLb K) := ok_lb fx
  have mak_Changes : Mak P w K mg base CX0 1 "Changes" (He.ga K "Changes") ["self", "rows"] (spChI K) := ok_chI fx
  refine Cal.of (st := s_law_whole) fx.g_law_whole fx.fd_law_whole sc_law_whole (fun _ _ _ _ _ _ _ us hl => match us, hl with | [_], _ => rfl) (fun vs H Q E h => by obtain ⟨a, ns, rfl, _⟩ := h; rfl) fun f cdv A outer s H vs Q E hr h => ⟨_, PSs.nox (pss_cons (ps_asg (pe_c cal_law_source hr (by decide) rfl pass0 (pa_cons (pe_c cal_law_stream hr (by decide) rfl pass0 (pa_cons (pv 0) (pa_cons pe_int pa_nil))) pa_nil)) (pg_tupK (K := K) (n := 2) rfl rfl (pgs_cons (pg_name (i := 1) sc_law_whole.nd rfl (.inl rfl)) (pgs_cons (pg_name (i := 2) sc_law_whole.nd rfl (.inl rfl)) pgs_nil)))) (pss_cons (ps_asg (pe_c cal_law_readable hr (by decide) rfl pass0 (pa_cons (pe_c cal_law_stream hr (by decide) rfl pass0 (pa_cons (pv 0) (pa_cons pe_int pa_nil))) (pa_cons (pv 2) pa_nil))) (pg_tupK (K := K) (n := 2) rfl rfl (pgs_cons (pg_name (i := 3) sc_law_whole.nd rfl (.inr rfl)) (pgs_cons (pg_name (i := 4) sc_law_whole.nd rfl (.inl rfl)) pgs_nil)))) (pss_cons (ps_set (i := 5) sc_law_whole.nd rfl (.inl rfl) (pe_mk mak_Changes hr (by decide) rfl pass0 (pa_cons (pe_lock (pe_lc (own := [("_law_text_here", 6)]) rfl sc_law_whole.nd (pi_keys (pv 3)) (blkOk_by (N := N_law_whole) (sc := defScope s_law_whole) (by decide +kernel)) (fun _ _ _ _ _ => (pg_name (i := 6) sc_law_whole.nd rfl (.inl rfl))) (fun _ _ _ _ _ => pts_nil) (fun _ _ _ _ _ => (pe_tup (pa_cons (pv 6) (pa_cons (pe_callTy (call_list_ofK (K := K) rfl) rfl fx.f_list boot_list (pa_cons (pe_dget (hu_of hr) (pv 3) (pv 6) (fun _ _ => rfl)) pa_nil)) pa_nil)))))) pa_nil))) (pss_cons (ps_for PassesOwn.never rfl (pi_range1 rfl fx.f_range (pa_cons pe_int pa_nil)) (pg_name (i := 7) sc_law_whole.nd rfl (.inl rfl)) (pss_cons (ps_set (i := 8) sc_law_whole.nd rfl (.inl rfl) (pe_c cal_law_finder hr (by decide) rfl pass0 (pa_cons (pe_c cal_law_stream hr (by decide) rfl pass0 (pa_cons (pv 0) (pa_cons (pe_op op_add pe_int (pv 7)) pa_nil))) (pa_cons (pv 3) (pa_cons (pv 4) pa_nil))))) (pss_cons (ps_if (pt_not (pt_val (pe_c cal_law_refusals_fit hr (by decide) rfl pass0 (pa_cons (pe_c cal_law_stream hr (by decide) rfl pass0 (pa_cons (pv 0) (pa_cons (pe_op op_add pe_int (pv 7)) pa_nil))) (pa_cons (pv 1) (pa_cons (pv 3) (pa_cons (pv 8) pa_nil))))))) (pss_one (ps_ret pe_bl)) pss_nil) (pss_cons (ps_set (i := 9) sc_law_whole.nd rfl (.inl rfl) (pe_c cal_law_copy hr (by decide) rfl pass0 (pa_cons (pv 8) pa_nil))) (pss_cons (ps_set (i := 10) sc_law_whole.nd rfl (.inl rfl) (pe_c cal_best_writer hr (by decide) rfl pass0 (pa_cons (pv 1) (pa_cons (pv 5) (pa_cons (pv 9) pa_nil))))) (pss_cons (ps_if (pt_cmpR (op_nePK (K := K) rfl hr.units) (pv 9) (pe_c cal_law_copy hr (by decide) rfl pass0 (pa_cons (pv 8) pa_nil)) (nomark _)) (pss_one (ps_ret pe_bl)) pss_nil) (pss_cons (ps_if (PW.pt (pw_or (pt_not (pt_val (pe_callB (call_isiK (K := K) rfl) rfl fx.f_isinstance boot_isinstance (pa_cons (pv 10) (pa_cons (pe_bltn (v := .ty "tuple") rfl fx.f_tuple boot_tuple rfl) pa_nil))))) (pw_or (pt_cmpR op_ne (pe_callB (call_lenK (K := K) rfl) rfl fx.f_len boot_len (pa_cons (pv 10) pa_nil)) pe_int (nomark _)) (pw_or1 (pt_not (pt_val (pe_c cal_law_lot_fits hr (by decide) rfl pass0 (pa_cons (pe_ix (ix_tupK (K := K) rfl) (pv 10) pe_int (fun _ _ => rfl)) (pa_cons (pv 2) pa_nil))))))))) (pss_one (ps_ret pe_bl)) pss_nil) (pss_cons (ps_set (i := 11) sc_law_whole.nd rfl (.inl rfl) (pe_c cal_law_entries hr (by decide) rfl pass0 (pa_cons (pe_ix (ix_tupK (K := K) rfl) (pv 10) pe_int (fun _ _ => rfl)) (pa_cons (pv 2) (pa_cons (pv 8) pa_nil))))) (pss_cons (ps_if (PW.pt (pw_or (pt_cmp (pc_isN (pv 11))) (pw_or (pt_not (pt_val (pe_c cal_law_places_fit hr (by decide) rfl pass0 (pa_cons (pv 11) (pa_cons (pv 8) pa_nil))))) (pw_or1 (pt_not (pt_val (pe_c cal_law_unseen hr (by decide) rfl pass0 (pa_cons (pv 11) (pa_cons (pv 2) pa_nil))))))))) (pss_one (ps_ret pe_bl)) pss_nil) (pss_cons (ps_set (i := 12) sc_law_whole.nd rfl (.inl rfl) (pe_callB (cr_sumK (K := K) rfl rfl) rfl fx.f_sum boot_sum (pa_cons (pe_lc (own := [("_law_entry", 13)]) rfl sc_law_whole.nd (pi_tupK (K := K) rfl (pv 11)) (blkOk_by (N := N_law_whole) (sc := defScope s_law_whole) (by decide +kernel)) (fun _ _ _ _ _ => (pg_name (i := 13) sc_law_whole.nd rfl (.inl rfl))) (fun _ _ _ _ _ => (pts_one (pt_val (pe_c cal_law_reaches hr (by decide) rfl pass0 (pa_cons (pe_ix (ix_tupK (K := K) rfl) (pv 13) pe_int (fun _ _ => rfl)) (pa_cons (pe_dget (hu_of hr) (pv 3) (pe_ix (ix_tupK (K := K) rfl) (pv 13) pe_int (fun _ _ => rfl)) (fun _ _ => rfl)) pa_nil)))))) (fun _ _ _ _ _ => (pe_ix (ix_tupK (K := K) rfl) (pv 13) pe_int (fun _ _ => rfl)))) pa_nil))) (pss_cons (ps_set (i := 14) sc_law_whole.nd rfl (.inl rfl) (pe_callB (cr_sumK (K := K) rfl rfl) rfl fx.f_sum boot_sum (pa_cons (pe_lc (own := [("_law_entry", 13)]) rfl sc_law_whole.nd (pi_tupK (K := K) rfl (pv 11)) (blkOk_by (N := N_law_whole) (sc := defScope s_law_whole) (by decide +kernel)) (fun _ _ _ _ _ => (pg_name (i := 13) sc_law_whole.nd rfl (.inl rfl))) (fun _ _ _ _ _ => pts_nil) (fun _ _ _ _ _ => (pe_ix (ix_tupK (K := K) rfl) (pv 13) pe_int (fun _ _ => rfl)))) pa_nil))) (pss_cons (ps_set (i := 15) sc_law_whole.nd rfl (.inl rfl) (pe_c cal_law_bound hr (by decide) rfl pass0 (pa_cons (pv 2) (pa_cons (pv 3) (pa_cons (pv 8) (pa_cons (pe_ix (ix_tupK (K := K) rfl) (pv 10) pe_int (fun _ _ => rfl)) pa_nil)))))) (pss_cons (ps_if (pt_cmpR op_ne (pe_op op_mulW (pv 12) (pe_ix (ix_tupK (K := K) rfl) (pv 15) pe_int (fun _ _ => rfl))) (pe_op op_mulW (pe_ix (ix_tupK (K := K) rfl) (pv 15) pe_int (fun _ _ => rfl)) (pv 14)) (nomark _)) (pss_one (ps_ret pe_bl)) pss_nil) (pss_cons (ps_if (pt_not (pt_val (pe_c cal_law_is_share hr (by decide) rfl pass0 (pa_cons (pe_c cal_found_share hr (by decide) rfl pass0 (pa_cons (pv 5) (pa_cons (pe_ix (ix_tupK (K := K) rfl) (pv 10) pe_int (fun _ _ => rfl)) pa_nil))) (pa_cons (pv 12) (pa_cons (pv 14) pa_nil)))))) (pss_one (ps_ret pe_bl)) pss_nil) (pss_cons (ps_if (pt_not (pt_val (pe_c cal_law_is_share hr (by decide) rfl pass0 (pa_cons (pe_c cal_lot_bound hr (by decide) rfl pass0 (pa_cons (pv 1) (pa_cons (pv 5) (pa_cons (pe_c cal_law_copy hr (by decide) rfl pass0 (pa_cons (pv 8) pa_nil)) (pa_cons (pe_ix (ix_tupK (K := K) rfl) (pv 10) pe_int (fun _ _ => rfl)) pa_nil))))) (pa_cons (pv 12) (pa_cons (pv 14) pa_nil)))))) (pss_one (ps_ret pe_bl)) pss_nil) (pss_cons (ps_set (i := 16) sc_law_whole.nd rfl (.inl rfl) (pe_c cal_law_stream hr (by decide) rfl pass0 (pa_cons (pv 0) (pa_cons (pe_op op_add pe_int (pv 7)) pa_nil)))) (pss_one (ps_if (pt_not (pt_val (pe_c cal_law_lots_fit hr (by decide) rfl pass0 (pa_cons (pv 16) (pa_cons (pv 1) (pa_cons (pv 5) (pa_cons (pv 2) (pa_cons (pv 3) (pa_cons (pv 8) (pa_cons (pe_tup (pa_cons (pv 12) (pa_cons (pv 14) pa_nil))) pa_nil)))))))))) (pss_one (ps_ret pe_bl)) pss_nil)))))))))))))))))) (pss_one (ps_ret pe_bl)))))), ?_⟩
  obtain ⟨a, ns, rfl, hsq, hnl, hq⟩ := h
  refine ⟨_, rfl, a, ns, 0, rfl, hsq, hnl, by omega, fun p0 H1 np0 m1 h31 => ⟨p0, rfl, h31, fun t0 s wa W H2 wok ht0 hs hwa sm2 => ?_⟩⟩
  have m2 := same_sm m1 np0 sm2
  refine ⟨t0, _, rfl, .inl (.inl ht0), rfl, _, _, rfl, _, _, rfl, rfl, ?_⟩
  refine ⟨_, rfl, a, ns, 1, rfl, m2.seq hsq, hnl, by omega, fun p1 H3 np1 m3 h33 => ⟨_, rfl, p1, wa, W, rfl, h33, m3 _ _ hwa, wok, fun t1 d lo R os H4 ht1 hd hlo rkeys rok ond ol sm4 => ?_⟩⟩
  have m4 := same_sm m3 np1 sm4
  have wl := wok.len
  have rnd : (R.map Prod.fst).Nodup := by rw [rkeys]; exact wok.nd
  have rl : R.length = W.length := by
    have := congrArg List.length rkeys
    rwa [List.length_map, List.length_map] at this
  have r40 : ∀ r ∈ R, r.2.length ≤ 40 := fun r hr => Nat.le_trans (len_sub (rok r hr).2.1 (rok r hr).2.2) ol
  refine ⟨t1, _, rfl, .inl (.inl ht1), rfl, _, _, rfl, _, _, rfl, rfl, ?_⟩
  obtain ⟨L, hdd, hL⟩ := id hd
  refine ⟨d, _, hdd, trivial, fun od => ?_⟩
  refine ⟨_, rfl, d, od, rfl, .inl ⟨_, upd_same, fun D nD => ?_⟩⟩
  have dD : d ≠ D := fun e => by rw [← e, upd_same] at nD; cases nD
  have nD4 : H4 D = none := by rw [upd_ne (Ne.symm dD)] at nD; exact nD
  refine lc_it (walk_keys (d := d) (o := od) (kvs := skv V.ref L)) (fun j H' => ∃ M : List (Addr × Addr), H' D = some (.lst (M.map fun e => V.ref e.1)) ∧ All2 (fun e r => H' e.1 = some (.tup [.str r.1, .ref e.2]) ∧ Lt H' e.2 r.2 ∧ e.2 ≠ D ∧ e.2 ≠ d) M (R.take j) ∧ H' d = some (.frz od (.dK (skv V.ref L))) ∧ Sm d H4 H')
    ⟨[], upd_same, All2.nil, upd_at upd_same nD, (Sm.at (Sm.refl d H4)).upd nD4⟩ ?_ ?_ ?_
  · rintro j H' _ ⟨M, _, _, h, _⟩
    exact h
  · rintro j y H7 H7' hj ⟨M, hD, hM, hd7, m7⟩ ⟨rfl, k, v, hkv, rfl⟩
    rw [skv_len] at hj
    have eL : L[j]? = some L[j] := List.getElem?_eq_getElem hj
    rw [skv_at eL] at hkv
    generalize L[j] = e at eL hkv
    cases hkv
    obtain ⟨r, hr, g1, g2⟩ := hL.r eL
    have e2d : e.2 ≠ d := ne_of (show H4 e.2 = _ from g2) hdd fun z => by cases z
    have g3 : Lt H7' e.2 r.2 := m7 _ _ e2d g2
    have jl : j < R.length := (List.getElem?_eq_some_iff.mp hr).1
    have kL : (L.map (·.1)).Nodup := by rw [show L.map (·.1) = R.map Prod.fst from hL.keys]; exact rnd
    refine ⟨rfl, _, rfl, _, rfl, _, rfl, d, .ref e.2, rfl, .inl ⟨_, Sum.inr e.1, .inr ⟨od, hd7⟩, rfl, (skv_some kL (List.mem_of_getElem? eL)).symm⟩, e.2, _, rfl, .inl (.inl (.inl g3)), fun l nl => ⟨by show 2 ≤ sizeLine; decide, fun T nT => ?_⟩⟩
    have k1 := same_new (o := .lst (r.2.map V.str)) nl
    have k2 := same_upd (o := .tup [.str e.1, .ref l]) k1 (same_free k1 nT)
    have TD : T ≠ D := Ne.symm (ne_of_none (k1 _ _ hD) nT)
    have lD : l ≠ D := Ne.symm (ne_of_none hD nl)
    have ld : l ≠ d := Ne.symm (ne_of_none hd7 nl)
    have nl4 := (smx_free m7 hd7 nl).1
    have nT7 : H7' T = none := same_free k1 nT
    have nT4 := (smx_free m7 hd7 nT7).1
    refine ⟨_, k2 _ _ hD, small1000 (by rw [List.length_map, hM.1, List.length_take]; omega), M ++ [(T, l)], ?_, ?_, upd_to (k2 _ _ hd7) dD, ((m7.upd nl4).upd nT4).upd nD4⟩
    · rw [upd_same, List.map_append]
      rfl
    · rw [take_snoc hr]
      have g4 : V.str r.1 = kV (Sum.inr e.1) := by rw [← g1]; rfl
      exact (hM.mono fun e' r' h => ⟨upd_to (k2 _ _ h.1) (ne_of h.1 hD fun z => by cases z), upd_to (k2 _ _ h.2.1) h.2.2.1, h.2.2⟩).snoc ⟨by rw [g4]; exact upd_to upd_same TD, upd_to (upd_at upd_same nT) lD, lD, ld⟩
  rintro H5 ⟨M, hD, hM, hd5, m5⟩
  rw [skv_len, hL.1, List.take_length] at hM
  have b5 : Same H4 (upd H5 d (.dK (skv V.ref L))) := same_back hdd (Same.refl _) m5
  refine ⟨hd5, fun c dx nc ndx ne => ?_⟩
  have hD5 := upd_to (o := .dK (skv V.ref L)) hD (Ne.symm dD)
  have hM5 := hM.mono (G := fun e r => upd H5 d (.dK (skv V.ref L)) e.1 = some (.tup [.str r.1, .ref e.2]) ∧ Lt (upd H5 d (.dK (skv V.ref L))) e.2 r.2) fun e r h => ⟨upd_to h.1 (ne_of h.1 hd5 fun z => by cases z), upd_to (show H5 e.2 = _ from h.2.1) h.2.2.2⟩
  generalize upd H5 d (.dK (skv V.ref L)) = H6 at b5 nc ndx hD5 hM5
  have nI : Same H6 (upd (upd H6 dx (.own c)) c (.ins (He.ga K "Changes") dx [])) := same_upd (same_new ndx) nc
  refine ⟨c, dx, D, R, rfl, upd_same, ⟨M, nI _ _ hD5, hM5.mono fun e r h => ⟨nI _ _ h.1, nI _ _ h.2⟩⟩, rnd, fun r hr => by have := r40 r hr; omega, by omega, fun H7 kd s7 hx7 hkd => ⟨rfl, ?_⟩⟩
  have m7 : Same H6 H7 := fun b o e => s7 b o (fun z => by rw [z, nc] at e; cases e) (nI b o e)
  have hch : ChAt K H7 c R := ⟨dx, kd, hx7, hkd⟩
  have b7 := b5.trans m7
  have b27 := m4.trans b7
  have hs7 := hs.same b27
  have hwa7 := b27 _ _ hwa
  have hd7 := hd.same b7
  have hlo7 : Lt H7 lo os := b7 _ _ hlo
  have hsq7 := (m2.trans b27).seq hsq
  refine ⟨2, rfl, by decide, by decide, ?_⟩
  refine for_range (n := 2) (fun i σ H' => Same H7 H' ∧ ∃ (o7 o8 o9 o10 o11 o12 o14 o15 o16 : Option V), σ = [some (.ref a), some (.ref s), some (.ref wa), some (.ref d), some (.ref lo), some (.ref c), none, o7, o8, o9, o10, o11, o12, none, o14, o15, o16])
    ⟨Same.refl _, none, none, none, none, none, none, none, none, none, rfl⟩ ?_ ?_
  · rintro i σ H8 hi ⟨m8, o7, o8, o9, o10, o11, o12, o14, o15, o16, rfl⟩
    rw [Int.zero_add]
    exact wh_body fx m8 hi hsq7 hnl hs7 hwa7 hd7 hlo7 hch wok rkeys rok ond ol fun σ' H' m h => ⟨m, h⟩
  · rintro σ H8 ⟨m8, _⟩
    exact hq H8 ((m2.trans b27).trans m8)
end Km
end

section
set_option Elab.async false
set_option linter.all false
set_option maxRecDepth 100000
set_option maxHeartbeats 4000000
set_option pp.maxSteps 700
/-! law. -/
namespace Km
open PySem PySem.Spec PyProof.Rows L2
variable {P : Program} {w : World} {K : PySem.W.Frag} {mg : Str → Option Value} {base : Heap}
abbrev N_law : List PySem.Str := ["_law_script"]
theorem sc_law : FnScope N_law ["_law_script"] (defScope s_law) := ⟨rfl, rfl, rfl, by decide +kernel, rfl, by decide +kernel, by decide +kernel⟩

theorem ok_law (fx : Fx K mg) : Cal P w K mg base CX0 9 "law" ["_law_script"] (spWhole K) := by
  have cal_law_whole : Cal P w K mg base CX0 8 "_law_whole" ["_law_script"] (spWhole K) := ok_whole fx
  refine Cal.of (st := s_law) fx.g_law fx.fd_law sc_law (fun _ _ _ _ _ _ _ us hl => match us, hl with | [_], _ => rfl) (fun vs H Q E h => by obtain ⟨a, ns, rfl, _⟩ := h; rfl) fun f cdv A outer s H vs Q E hr h => ⟨_, PSs.nox (pss_one (ps_try_thru0 (pss_one (ps_ret (pe_c cal_law_whole hr (by decide) rfl pass0 (pa_cons (pv 0) pa_nil)))))), ?_⟩
  obtain ⟨a, ns, rfl, hsq, hl, hq⟩ := h
  exact ⟨_, rfl, a, ns, rfl, hsq, hl, hq⟩
end Km
end

section
set_option Elab.async false
set_option linter.all false
set_option maxRecDepth 100000
set_option maxHeartbeats 0
/-! The end. -/
namespace Km
open PySem PySem.Spec PyProof.Rows L2
theorem fx_of {w : World} {h : Heap} {K : PySem.W.Frag} {mg : Str → Option Value} (X : K.In h) (G : h.Ns mainGlobals mg) (c : He.SaysX hfa hfn [] [] exB w h K) : Fx K mg :=
  ⟨fun f h => He.SaysD.facts c.t.d h, fun d h => He.SaysD.defs c.t.d h, fun x e => He.glo_ok X G e, fun x e => He.free_ok X G e, c.more⟩
theorem facts {P : Program} {w : World} {K : PySem.W.Frag} {h : Heap} {mg : Str → Option Value} {f : Addr} (X : K.In h) (G : h.Ns mainGlobals mg) (hf : mg ("law" : Str) = some (.ref f)) (c : He.SaysX hfa hfn [] [] exB w h K) :
    ∃ fd : FuncData, (∀ (s : Shared) (v : Value), BindsTo s fd ⟨[v], []⟩ [("_law_script", v)]) ∧ ∀ base : Heap, K.In base → base.Ns mainGlobals mg → FnOk P w K mg base CX0 9 f fd ["_law_script"] (spWhole K) := by
  have fx := fx_of X G c
  obtain ⟨fd, F⟩ := fx.fd_law
  have e := hf.symm.trans fx.g_law
  cases e
  have b := FunD.bindsA (ps := ["_law_script"]) F fun _ _ _ _ _ _ us hl => match us, hl with | [_], _ => rfl
  refine ⟨fd, fun s v => b s [v] rfl, fun base _ _ => ?_⟩
  have cal_law_whole : Cal P w K mg base CX0 8 "_law_whole" ["_law_script"] (spWhole K) := ok_whole fx
  refine F.ok sc_law (fun vs H Q E h => by obtain ⟨a, ns, rfl, _⟩ := h; rfl) fun cdv A outer s H vs Q E hr h => ⟨_, PSs.nox (pss_one (ps_try_thru0 (pss_one (ps_ret (pe_c cal_law_whole hr (by decide) rfl pass0 (pa_cons (pv 0) pa_nil)))))), ?_⟩
  obtain ⟨a, ns, rfl, hsq, hl, hq⟩ := h
  exact ⟨_, rfl, a, ns, rfl, hsq, hl, hq⟩
end Km
open PySem PySem.W PySem.Calls PyProof.Rows
theorem PySem.Challenge.cw_marktruly_k52_whole_best_writer_holds : PySem.Challenge.rw_marktruly_k52_whole_best_writer.Holds := by
  w_on; o_law
  refine HandSHeadRun.head_any (r := OpenLaw.row PySem.Challenge.rw_marktruly_k52_whole_best_writer) (q := Km.qv) (H := Km.hkX) (ob := Km.obX) (M := 6000) (loose := Km.hloose) (d := HandSHeadRun.topDef (OpenLaw.row PySem.Challenge.rw_marktruly_k52_whole_best_writer).prog 57) (kwd := []) Km.obX_eq
    (by kernel_rfl) (fun s => by kernel_rfl) Km.run (by kernel_rfl) (by kernel_rfl) (by kernel_rfl) (by rfl) (by first | assumption | decide +kernel) (by decide +kernel) ⟨rfl, rfl, rfl, rfl, rfl, by decide +kernel⟩ ?hw ?hc
  case hw => w_witness2
  case hc =>
    refine L2.walk_ofE (l := PySem.Challenge.rw_marktruly_k52_whole_best_writer) (n := 63) (k := 9) (x := "_law_script") (CX := L2.CX0) rfl (by decide) (by kernel_rfl) ⟨rfl, by decide, by decide⟩ ?F (fun _ _ _ _ z => z)
    intro w mg fa h Y G hmg0
    obtain ⟨K, KX, c⟩ := Y
    have hmg : mg ("law" : PySem.Str) = some (.ref fa) := by
      have e : (HandSHeadRun.topDef (OpenLaw.row PySem.Challenge.rw_marktruly_k52_whole_best_writer).prog 57).name = ("law" : PySem.Str) := by kernel_rfl
      rw [← e]
      exact hmg0
    obtain ⟨fd, hb, hF⟩ := Km.facts (P := (PySem.Challenge.rw_marktruly_k52_whole_best_writer).prog) (w := w) KX G hmg c
    exact ⟨K, fd, Km.spWhole K, KX, hb, fun H a ns hl _ hS => ⟨a, ns, rfl, hS, by omega, fun _ _ => rfl⟩, hF⟩
end
