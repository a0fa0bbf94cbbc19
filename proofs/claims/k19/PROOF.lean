import PyProof.Rows.All
import Wide.All
import OpenK.AllK
import Wide.FinOn
import KE.SortData
import KE.KDictKeyed
import HandS.ForMost
import HandS.IsInst
import HandS.Set
import HandS.SetFor
import KE.GoesNew
import KE.KTupSum
import KE.DataMinMax
import HandS.Walk
import HandS.RaiseMore
import HandS.Wide
import HandS.TupAny
import HandS.Style
import HandS.DictComp
import HandS.OwnEq
import HandS.Flow
import HandS.Conv
import HandS.SortInts
import PySem.Challenge.RW_staysdeep_k19_whole_courts_of_five_place
import HandS.Text
import HandS.Defaults
section
set_option autoImplicit false
set_option linter.all false
/-! M1: standings, moves, events over any box type; relabelling; the finite checks over the seven yards. -/
namespace K19M

abbrev Sd (α : Type) := List (List α)

section
variable {α β : Type}

def lastL (st : List α) : List α := st.drop (st.length - 1)
def moveOf (X : Sd α) (i j : Nat) : Sd α := (X.set j (X.getD j [] ++ lastL (X.getD i []))).set i (X.getD i []).dropLast
def nexts (h : List Nat) (X : Sd α) : List (Sd α) :=
  (List.range h.length).flatMap fun i => if (X.getD i []).isEmpty then [] else
    (List.range h.length).filterMap fun j => if j ≠ i ∧ (X.getD j []).length < h.getD j 0 then some (moveOf X i j) else none
def stepsIn (h : List Nat) (b : α) (X : Sd α) : List (Sd α) :=
  (List.range h.length).filterMap fun i => if (X.getD i []).length < h.getD i 0 then some (X.set i (X.getD i [] ++ [b])) else none
def stepsOut [DecidableEq α] (h : List Nat) (b : α) (X : Sd α) : List (Sd α) :=
  (List.range h.length).filterMap fun i => if lastL (X.getD i []) = [b] then some (X.set i (X.getD i []).dropLast) else none
def addAll [DecidableEq α] (acc new : List α) : List α := new.foldl (fun acc Y => if Y ∈ acc then acc else acc ++ [Y]) acc
def spreadGo [DecidableEq α] (h : List Nat) : Nat → Nat → List (Sd α) → List (Sd α)
  | 0, _, f => f
  | n + 1, at_, f => match f[at_]? with
    | none => f
    | some X => spreadGo h n (at_ + 1) (addAll f (nexts h X))
def spread [DecidableEq α] (h : List Nat) (sts : List (Sd α)) : List (Sd α) := spreadGo h 400 0 sts
def stepsEv [DecidableEq α] (h : List Nat) (e : Bool × α) (X : Sd α) : List (Sd α) := if e.1 then stepsIn h e.2 X else stepsOut h e.2 X
def after [DecidableEq α] (h : List Nat) (sts : List (Sd α)) (e : Bool × α) : List (Sd α) := addAll [] (sts.flatMap (stepsEv h e))
def triedGo [DecidableEq α] (h : List Nat) : List (Sd α) → Nat → List (Bool × α) → Option Nat
  | _, _, [] => none
  | sts, at_, e :: es => match after h (spread h sts) e with
    | [] => some at_
    | s :: ss => triedGo h (s :: ss) (at_ + 1) es

/-- the boxes in places of cover u or more, by stacks -/
def low (h : List Nat) (u : Nat) (X : Sd α) : Sd α := List.zipWith (fun n st => st.take (n - u)) h X
def owed (h : List Nat) (u : Nat) : Nat := (h.map fun n => n - u).sum
def fits (h : List Nat) (X : Sd α) : Bool := decide (X.length = h.length) && (List.zipWith (fun n (st : List α) => decide (st.length ≤ n)) h X).all id

/-! ### relabelling -/
abbrev rel (r : α → β) (X : Sd α) : Sd β := X.map (List.map r)

theorem rel_getD (r : α → β) (X : Sd α) (i : Nat) : (rel r X).getD i [] = (X.getD i []).map r := by
  unfold rel
  rw [List.getD_eq_getElem?_getD, List.getElem?_map, List.getD_eq_getElem?_getD]
  cases X[i]? <;> rfl
theorem lastL_map (r : α → β) (st : List α) : lastL (st.map r) = (lastL st).map r := by
  unfold lastL
  rw [List.length_map, List.map_drop]
theorem rel_set (r : α → β) (X : Sd α) (i : Nat) (st : List α) : rel r (X.set i st) = (rel r X).set i (st.map r) := List.map_set
theorem dropLast_map (r : α → β) (st : List α) : (st.map r).dropLast = st.dropLast.map r := (List.map_dropLast).symm
theorem moveOf_rel (r : α → β) (X : Sd α) (i j : Nat) : moveOf (rel r X) i j = rel r (moveOf X i j) := by
  unfold moveOf
  rw [rel_set, rel_set, rel_getD, rel_getD, lastL_map, dropLast_map, List.map_append]
theorem nexts_rel (r : α → β) (h : List Nat) (X : Sd α) : nexts h (rel r X) = (nexts h X).map (rel r) := by
  unfold nexts
  rw [List.map_flatMap]
  congr 1
  funext i
  rw [rel_getD, List.isEmpty_map]
  split
  · rfl
  · rw [List.map_filterMap]
    congr 1
    funext j
    rw [rel_getD, List.length_map, moveOf_rel]
    split <;> rfl
theorem stepsIn_rel (r : α → β) (h : List Nat) (b : α) (X : Sd α) : stepsIn h (r b) (rel r X) = (stepsIn h b X).map (rel r) := by
  unfold stepsIn
  rw [List.map_filterMap]
  congr 1
  funext i
  rw [rel_getD, List.length_map]
  split
  · rw [Option.map_some, rel_set, List.map_append]
    rfl
  · rfl
theorem low_rel (r : α → β) (h : List Nat) (u : Nat) (X : Sd α) : low h u (rel r X) = rel r (low h u X) := by
  unfold low rel
  rw [List.zipWith_map_right, List.map_zipWith]
  congr 1
  funext n st
  rw [List.map_take]
theorem fits_rel (r : α → β) (h : List Nat) (X : Sd α) : fits h (rel r X) = fits h X := by
  unfold fits rel
  rw [List.length_map, List.zipWith_map_right]
  congr 3
  funext n st
  rw [List.length_map]
theorem flatten_rel (r : α → β) (X : Sd α) : (rel r X).flatten = X.flatten.map r := List.map_flatten.symm
theorem rel_rel {γ : Type} (r : α → β) (q : β → γ) (X : Sd α) : rel q (rel r X) = rel (q ∘ r) X := by
  unfold rel
  rw [List.map_map]
  congr 1
  funext st
  show List.map q (List.map r st) = List.map (q ∘ r) st
  rw [List.map_map]
theorem rel_congr {r q : α → β} {X : Sd α} (h : ∀ x ∈ X.flatten, r x = q x) : rel r X = rel q X := by
  unfold rel
  refine List.map_congr_left fun st hst => List.map_congr_left fun x hx => h x ?_
  exact List.mem_flatten.mpr ⟨st, hst, hx⟩
theorem rel_id (X : Sd α) : rel id X = X := by
  unfold rel
  rw [List.map_id_fun]
  exact List.map_id X
theorem lastL_mem {st : List α} {x : α} (h : x ∈ lastL st) : x ∈ st := List.mem_of_mem_drop h
theorem getD_mem {X : Sd α} {i : Nat} {x : α} (h : x ∈ X.getD i []) : x ∈ X.flatten := by
  rw [List.getD_eq_getElem?_getD] at h
  cases e : X[i]? with
  | none =>
    rw [e] at h
    cases h
  | some st =>
    rw [e] at h
    exact List.mem_flatten.mpr ⟨st, List.mem_of_getElem? e, h⟩
theorem stepsOut_rel [DecidableEq α] [DecidableEq β] {r : α → β} {h : List Nat} {b : α} {X : Sd α} (inj : ∀ x ∈ X.flatten, r x = r b → x = b) : stepsOut h (r b) (rel r X) = (stepsOut h b X).map (rel r) := by
  unfold stepsOut
  rw [List.map_filterMap]
  congr 1
  funext i
  rw [rel_getD, lastL_map]
  have e : ((lastL (X.getD i [])).map r = [r b]) ↔ lastL (X.getD i []) = [b] := by
    constructor
    · intro q
      obtain ⟨y, hq, y1⟩ : ∃ y, lastL (X.getD i []) = [y] ∧ r y = r b := by
        generalize lastL (X.getD i []) = l at q
        cases l with
        | nil => cases q
        | cons y l =>
          cases l with
          | nil => exact ⟨y, rfl, (List.cons.inj q).1⟩
          | cons z l => cases (List.cons.inj q).2
      have hy : y ∈ X.flatten := getD_mem (lastL_mem (by rw [hq]; exact List.mem_cons_self))
      rw [hq, inj y hy y1]
    · intro q
      rw [q]
      rfl
  by_cases q : lastL (X.getD i []) = [b]
  · rw [if_pos q, if_pos (e.mpr q), Option.map_some, rel_set, dropLast_map]
  · rw [if_neg q, if_neg (fun z => q (e.mp z))]
    rfl

/-! ### cutting a row of boxes into stacks -/
def split : List Nat → List α → Sd α
  | [], _ => []
  | n :: sh, l => l.take n :: split sh (l.drop n)
def lens (X : Sd α) : List Nat := X.map List.length
theorem split_lens : ∀ X : Sd α, split (lens X) X.flatten = X
  | [] => rfl
  | st :: X => by
    show (st ++ X.flatten).take st.length :: split (lens X) ((st ++ X.flatten).drop st.length) = st :: X
    rw [List.take_left, List.drop_left, split_lens X]
theorem split_map (r : α → β) : ∀ (sh : List Nat) (l : List α), split sh (l.map r) = rel r (split sh l)
  | [], _ => rfl
  | n :: sh, l => by
    show (l.map r).take n :: split sh ((l.map r).drop n) = (l.take n).map r :: rel r (split sh (l.drop n))
    rw [← List.map_take, ← List.map_drop, split_map r sh (l.drop n)]
theorem lens_rel (r : α → β) (X : Sd α) : lens (rel r X) = lens X := by
  unfold lens rel
  rw [List.map_map]
  congr 1
  funext st
  exact List.length_map _
theorem lens_sum (X : Sd α) : (lens X).sum = X.flatten.length := by
  unfold lens
  rw [List.length_flatten]
def canon (sh : List Nat) : Sd Nat := split sh (List.range sh.sum)
/-- every standing is a relabelled canonical one -/
theorem canon_rel (X : Sd α) (b : α) : rel (fun i => X.flatten.getD i b) (canon (lens X)) = X := by
  unfold canon
  rw [← split_map, lens_sum]
  have e : (List.range X.flatten.length).map (fun i => X.flatten.getD i b) = X.flatten := by
    apply List.ext_getElem
    · rw [List.length_map, List.length_range]
    · intro i h1 h2
      rw [List.getElem_map, List.getElem_range, List.getD_eq_getElem?_getD, List.getElem?_eq_getElem h2]
      rfl
  rw [e, split_lens]

/-! ### shapes, orders -/
def shapes : List Nat → List (List Nat)
  | [] => [[]]
  | n :: h => (List.range (n + 1)).flatMap fun k => (shapes h).map (k :: ·)
theorem mem_shapes : ∀ {h : List Nat} {X : Sd α}, fits h X = true → lens X ∈ shapes h
  | [], [], _ => List.mem_cons_self
  | [], st :: X, q => by
    unfold fits at q
    simp at q
  | n :: h, [], q => by
    unfold fits at q
    simp at q
  | n :: h, st :: X, q => by
    unfold fits at q
    have q2 := Bool.and_eq_true_iff.mp q
    have hl : X.length = h.length := by
      have := of_decide_eq_true q2.1
      simpa using this
    have q3 := List.all_eq_true.mp q2.2
    have h1 : st.length ≤ n := by
      have := q3 (decide (st.length ≤ n)) List.mem_cons_self
      exact of_decide_eq_true this
    have h2 : fits h X = true := by
      unfold fits
      rw [decide_eq_true hl, Bool.true_and]
      exact List.all_eq_true.mpr fun b hb => q3 b (List.mem_cons_of_mem _ hb)
    refine List.mem_flatMap.mpr ⟨st.length, List.mem_range.mpr (by omega), ?_⟩
    exact List.mem_map.mpr ⟨lens X, mem_shapes h2, rfl⟩
def insEv (a : α) : List α → List (List α)
  | [] => [[a]]
  | b :: l => (a :: b :: l) :: (insEv a l).map (b :: ·)
theorem mem_insEv (a : α) : ∀ s t : List α, s ++ a :: t ∈ insEv a (s ++ t)
  | [], [] => List.mem_cons_self
  | [], _ :: _ => List.mem_cons_self
  | b :: s, t => List.mem_cons_of_mem _ (List.mem_map.mpr ⟨s ++ a :: t, mem_insEv a s t, rfl⟩)
def perms : List α → List (List α)
  | [] => [[]]
  | a :: l => (perms l).flatMap (insEv a)
theorem mem_perms : ∀ {m l : List α}, l.Perm m → l ∈ perms m
  | [], l, h => by
    rw [List.Perm.eq_nil h]
    exact List.mem_cons_self
  | a :: m, l, h => by
    have ha : a ∈ l := h.mem_iff.mpr List.mem_cons_self
    obtain ⟨s, t, rfl⟩ := List.append_of_mem ha
    have h2 : (s ++ t).Perm m := List.Perm.cons_inv (a := a) ((List.perm_middle).symm.trans h)
    exact List.mem_flatMap.mpr ⟨s ++ t, mem_perms h2, mem_insEv a s t⟩
end
end K19M
end

section
set_option autoImplicit false
set_option linter.all false
set_option maxRecDepth 100000
/-! M2: the finite checks, in the kernel. -/
namespace K19M
def menu : List (List Nat) := [[3, 1, 1], [1, 3, 1], [1, 1, 3], [2, 2, 1], [2, 1, 2], [1, 2, 2], [2, 1, 1, 1]]
/-- for covers from f to 2 -/
def covs (f : Nat) : List Nat := (List.range 3).filter fun u => decide (f ≤ u)
/-- same low parts from f on -/
def sameLow (h : List Nat) (f : Nat) (X Y : Sd Nat) : Bool := (covs f).all fun u => decide (low h u X = low h u Y)
def okNext (h : List Nat) (n f : Nat) (X Y : Sd Nat) : Bool := Y.flatten.isPerm (List.range n) && fits h Y && sameLow h f X Y
def chkNext (h : List Nat) (sh : List Nat) : Bool := (nexts h (canon sh)).all fun Y => okNext h sh.sum (h.sum - sh.sum) (canon sh) Y
def chkLow (h : List Nat) (sh : List Nat) : Bool := (covs (h.sum - sh.sum)).all fun u => decide ((low h u (canon sh)).flatten.length = owed h u)
/-- all standings of the numbers below n -/
def allOf (h : List Nat) (n : Nat) : List (Sd Nat) := (shapes h).flatMap fun sh => if sh.sum = n then (perms (List.range n)).map (split sh) else []
def chkConn (h : List Nat) (sh : List Nat) : Bool :=
  let R := spread h [canon sh]
  (allOf h sh.sum).all fun Y => !decide (low h (h.sum - sh.sum) Y = low h (h.sum - sh.sum) (canon sh)) || decide (Y ∈ R)
def chkDig (h : List Nat) (sh : List Nat) : Bool :=
  let R := spread h [canon sh]
  (List.range sh.sum).all fun b => decide (b ∈ (low h (h.sum - sh.sum + 1) (canon sh)).flatten) || R.any fun Y => !(stepsOut h b Y).isEmpty
def chkIn (h : List Nat) (sh : List Nat) : Bool :=
  decide (sh.sum = h.sum) || (!(stepsIn h sh.sum (canon sh)).isEmpty && (stepsIn h sh.sum (canon sh)).all fun Z => Z.flatten.isPerm (List.range (sh.sum + 1)) && fits h Z && sameLow h (h.sum - sh.sum) (canon sh) Z)
def chkOut (h : List Nat) (sh : List Nat) : Bool :=
  (List.range sh.sum).all fun b => (stepsOut h b (canon sh)).all fun Z => Z.flatten.isPerm ((List.range sh.sum).erase b) && fits h Z && sameLow h (h.sum - sh.sum + 1) (canon sh) Z && decide (canon sh ∈ stepsIn h b Z)
def chkMany (h : List Nat) : Bool := (List.range 6).all fun n => decide ((allOf h n).length ≤ 400)
def chkAll (h : List Nat) : Bool := (shapes h).all fun sh => chkNext h sh && chkLow h sh && chkIn h sh && chkOut h sh
theorem all_ok : (menu.all chkAll) = true := by decide +kernel
theorem many_ok : (menu.all chkMany) = true := by decide +kernel
theorem dig_ok : (menu.all fun h => (shapes h).all (chkDig h)) = true := by decide +kernel
theorem conn_ok : (menu.all fun h => (shapes h).all (chkConn h)) = true := by decide +kernel
end K19M
end

section
set_option autoImplicit false
set_option linter.all false
set_option maxRecDepth 100000
/-! M3: the checks carried to any boxes: moves keep the low parts, classes are joined, digging, events. -/
namespace K19M
section
variable {α : Type} [DecidableEq α]

inductive Reach (h : List Nat) : Sd α → Sd α → Prop
  | refl (X : Sd α) : Reach h X X
  | tail {X Y Z : Sd α} : Reach h X Y → Z ∈ nexts h Y → Reach h X Z
theorem Reach.trans {h : List Nat} {X Y Z : Sd α} (a : Reach h X Y) (b : Reach h Y Z) : Reach h X Z := by
  induction b with
  | refl => exact a
  | tail _ m ih => exact .tail ih m
theorem Reach.rel {β : Type} {h : List Nat} {X Y : Sd β} (r : β → α) (a : Reach h X Y) : Reach h (rel r X) (rel r Y) := by
  induction a with
  | refl => exact .refl _
  | tail _ m ih =>
    refine .tail ih ?_
    rw [nexts_rel]
    exact List.mem_map.mpr ⟨_, m, rfl⟩

/-! ### addAll, spread -/
theorem addAll_cons (acc : List α) (Y : α) (new : List α) : addAll acc (Y :: new) = addAll (if Y ∈ acc then acc else acc ++ [Y]) new := rfl
theorem mem_addAll : ∀ (new acc : List α) (x : α), x ∈ addAll acc new ↔ x ∈ acc ∨ x ∈ new
  | [], acc, x => by
    show x ∈ acc ↔ _
    simp
  | Y :: new, acc, x => by
    rw [addAll_cons, mem_addAll new]
    by_cases e : Y ∈ acc
    · rw [if_pos e, List.mem_cons]
      constructor
      · rintro (a | a)
        · exact .inl a
        · exact .inr (.inr a)
      · rintro (a | a | a)
        · exact .inl a
        · exact .inl (a ▸ e)
        · exact .inr a
    · rw [if_neg e, List.mem_append, List.mem_singleton, List.mem_cons, or_assoc]
theorem nodup_addAll : ∀ (new acc : List α), acc.Nodup → (addAll acc new).Nodup
  | [], acc, n => n
  | Y :: new, acc, n => by
    rw [addAll_cons]
    refine nodup_addAll new _ ?_
    by_cases e : Y ∈ acc
    · rw [if_pos e]
      exact n
    · rw [if_neg e, List.nodup_append]
      refine ⟨n, List.nodup_cons.mpr ⟨List.not_mem_nil, List.nodup_nil⟩, fun a ha b hb => ?_⟩
      rw [List.mem_singleton] at hb
      rintro rfl
      exact e (hb ▸ ha)
theorem addAll_prefix : ∀ (new acc : List α), ∃ t, addAll acc new = acc ++ t
  | [], acc => ⟨[], (List.append_nil acc).symm⟩
  | Y :: new, acc => by
    rw [addAll_cons]
    obtain ⟨t, e⟩ := addAll_prefix new (if Y ∈ acc then acc else acc ++ [Y])
    rw [e]
    split
    · exact ⟨t, rfl⟩
    · exact ⟨Y :: t, by rw [List.append_assoc]; rfl⟩

theorem spreadGo_sound (h : List Nat) (A : List (Sd α)) : ∀ (n i : Nat) (f : List (Sd α)), (∀ X ∈ f, ∃ Y ∈ A, Reach h Y X) → ∀ X ∈ spreadGo h n i f, ∃ Y ∈ A, Reach h Y X
  | 0, _, f, q => q
  | n + 1, i, f, q => by
    unfold spreadGo
    cases e : f[i]? with
    | none => exact q
    | some X =>
      refine spreadGo_sound h A n (i + 1) _ fun Z hZ => ?_
      rcases (mem_addAll _ _ _).mp hZ with z | z
      · exact q Z z
      · obtain ⟨Y, hY, r⟩ := q X (List.mem_of_getElem? e)
        exact ⟨Y, hY, .tail r z⟩
theorem spread_sound {h : List Nat} {A : List (Sd α)} {X : Sd α} (q : X ∈ spread h A) : ∃ Y ∈ A, Reach h Y X :=
  spreadGo_sound h A 400 0 A (fun X hX => ⟨X, hX, .refl X⟩) X q
theorem spreadGo_nodup (h : List Nat) : ∀ (n i : Nat) (f : List (Sd α)), f.Nodup → (spreadGo h n i f).Nodup
  | 0, _, f, q => q
  | n + 1, i, f, q => by
    unfold spreadGo
    cases e : f[i]? with
    | none => exact q
    | some X => exact spreadGo_nodup h n (i + 1) _ (nodup_addAll _ _ q)
theorem spreadGo_start (h : List Nat) : ∀ (n i : Nat) (f : List (Sd α)), ∀ X ∈ f, X ∈ spreadGo h n i f
  | 0, _, f, X, q => q
  | n + 1, i, f, X, q => by
    unfold spreadGo
    cases e : f[i]? with
    | none => exact q
    | some Y => exact spreadGo_start h n (i + 1) _ X ((mem_addAll _ _ _).mpr (.inl q))
/-- closed, where all is bounded -/
theorem spreadGo_closed (h : List Nat) (B : List (Sd α)) (hB : ∀ X ∈ B, ∀ Y ∈ nexts h X, Y ∈ B) : ∀ (n i : Nat) (f : List (Sd α)), f.Nodup → (∀ X ∈ f, X ∈ B) → B.length ≤ i + n →
    (∀ (j : Nat) X, j < i → f[j]? = some X → ∀ Y ∈ nexts h X, Y ∈ f) → ∀ X ∈ spreadGo h n i f, ∀ Y ∈ nexts h X, Y ∈ spreadGo h n i f
  | 0, i, f, nd, hf, hl, hd => by
    intro X hX Y hY
    have hX : X ∈ f := hX
    obtain ⟨j, e⟩ := List.mem_iff_getElem?.mp hX
    have hj : j < f.length := (List.getElem?_eq_some_iff.mp e).1
    have hfl : f.length ≤ B.length := nd.length_le_of_subset fun Z hZ => hf Z hZ
    exact hd j X (by omega) e Y hY
  | n + 1, i, f, nd, hf, hl, hd => by
    unfold spreadGo
    cases e : f[i]? with
    | none =>
      intro X hX Y hY
      have hX : X ∈ f := hX
      obtain ⟨j, ej⟩ := List.mem_iff_getElem?.mp hX
      have hj : j < f.length := (List.getElem?_eq_some_iff.mp ej).1
      have hi : f.length ≤ i := List.getElem?_eq_none_iff.mp e
      exact hd j X (by omega) ej Y hY
    | some X0 =>
      have hX0 : X0 ∈ f := List.mem_of_getElem? e
      refine spreadGo_closed h B hB n (i + 1) _ (nodup_addAll _ _ nd) (fun Z hZ => ?_) (by omega) fun j X hj ej Y hY => ?_
      · rcases (mem_addAll _ _ _).mp hZ with z | z
        · exact hf Z z
        · exact hB X0 (hf X0 hX0) Z z
      · obtain ⟨t, et⟩ := addAll_prefix (nexts h X0) f
        have hi : i < f.length := (List.getElem?_eq_some_iff.mp e).1
        have ej' : f[j]? = some X := by
          rw [et, List.getElem?_append_left (by omega)] at ej
          exact ej
        rcases Nat.lt_or_ge j i with z | z
        · exact (mem_addAll _ _ _).mpr (.inl (hd j X z ej' Y hY))
        · have : j = i := by omega
          subst this
          rw [e] at ej'
          cases ej'
          exact (mem_addAll _ _ _).mpr (.inr hY)
theorem spread_reach {h : List Nat} {A B : List (Sd α)} (hB : ∀ X ∈ B, ∀ Y ∈ nexts h X, Y ∈ B) (hl : B.length ≤ 400) (nd : A.Nodup) (hA : ∀ X ∈ A, X ∈ B) {X Y : Sd α} (hX : X ∈ A) (r : Reach h X Y) : Y ∈ spread h A := by
  induction r with
  | refl => exact spreadGo_start h 400 0 A _ hX
  | tail _ m ih => exact spreadGo_closed h B hB 400 0 A nd hA (by omega) (fun j _ hj => absurd hj (Nat.not_lt_zero j)) _ (ih) _ m

/-! ### all standings of some boxes -/
def allB (h : List Nat) (bs : List α) : List (Sd α) := (shapes h).flatMap fun sh => if sh.sum = bs.length then (perms bs).map (split sh) else []
theorem mem_allB {h : List Nat} {bs : List α} {X : Sd α} (f : fits h X = true) (p : X.flatten.Perm bs) : X ∈ allB h bs := by
  refine List.mem_flatMap.mpr ⟨lens X, mem_shapes f, ?_⟩
  rw [lens_sum, p.length_eq, if_pos rfl]
  exact List.mem_map.mpr ⟨X.flatten, mem_perms p, split_lens X⟩
theorem insEv_length (a : α) : ∀ l : List α, (insEv a l).length = l.length + 1
  | [] => rfl
  | b :: l => by
    show ((insEv a l).map (b :: ·)).length + 1 = _
    rw [List.length_map, insEv_length a l]
    rfl
theorem insEv_len {a : α} : ∀ {l m : List α}, m ∈ insEv a l → m.length = l.length + 1
  | [], m, h => by
    rw [List.mem_singleton.mp h]
    rfl
  | b :: l, m, h => by
    rcases List.mem_cons.mp h with z | z
    · rw [z]
      rfl
    · obtain ⟨k, hk, rfl⟩ := List.mem_map.mp z
      rw [List.length_cons, insEv_len hk]
      rfl
theorem perms_len : ∀ {m l : List α}, l ∈ perms m → l.length = m.length
  | [], l, h => by
    rw [List.mem_singleton.mp h]
  | a :: m, l, h => by
    obtain ⟨k, hk, hl⟩ := List.mem_flatMap.mp h
    rw [insEv_len hl, perms_len hk]
    rfl
theorem flatMap_len {β γ : Type} (f : β → List γ) (n : Nat) : ∀ l : List β, (∀ x ∈ l, (f x).length = n) → (l.flatMap f).length = l.length * n
  | [], _ => by simp
  | x :: l, q => by
    rw [List.flatMap_cons, List.length_append, q x List.mem_cons_self, flatMap_len f n l fun y hy => q y (List.mem_cons_of_mem _ hy), List.length_cons, Nat.succ_mul, Nat.add_comm]
theorem perms_count : ∀ {β : Type} (m : List α) (k : List β), m.length = k.length → (perms m).length = (perms k).length
  | _, [], [], _ => rfl
  | _, [], _ :: _, e => by cases e
  | _, _ :: _, [], e => by cases e
  | β, a :: m, b :: k, e => by
    have e' : m.length = k.length := Nat.succ.inj e
    show ((perms m).flatMap (insEv a)).length = ((perms k).flatMap (insEv b)).length
    have l2 : ∀ {γ : Type} (a : γ) (l : List γ), (insEv a l).length = l.length + 1 := by
      intro γ a l
      induction l with
      | nil => rfl
      | cons b l ih =>
        show ((insEv a l).map (b :: ·)).length + 1 = _
        rw [List.length_map, ih]
        rfl
    have l4 : ∀ {γ : Type} {a : γ} {l m : List γ}, m ∈ insEv a l → m.length = l.length + 1 := by
      intro γ a l
      induction l with
      | nil =>
        intro m h
        rw [List.mem_singleton.mp h]
        rfl
      | cons b l ih =>
        intro m h
        rcases List.mem_cons.mp h with z | z
        · rw [z]
          rfl
        · obtain ⟨k, hk, rfl⟩ := List.mem_map.mp z
          rw [List.length_cons, ih hk]
          rfl
    have l3 : ∀ {γ : Type} {m l : List γ}, l ∈ perms m → l.length = m.length := by
      intro γ m
      induction m with
      | nil =>
        intro l h
        rw [List.mem_singleton.mp h]
      | cons a m ih =>
        intro l h
        obtain ⟨k, hk, hl⟩ := List.mem_flatMap.mp h
        rw [l4 hl, ih hk]
        rfl
    rw [flatMap_len (insEv a) (m.length + 1) (perms m) fun x hx => by rw [l2, l3 hx], flatMap_len (insEv b) (k.length + 1) (perms k) fun x hx => by rw [l2, l3 hx], perms_count m k e', e']
theorem allB_len {h : List Nat} (hm : h ∈ menu) {bs : List α} (hb : bs.length ≤ 5) : (allB h bs).length ≤ 400 := by
  have q := of_decide_eq_true (List.all_eq_true.mp (List.all_eq_true.mp many_ok h hm) bs.length (List.mem_range.mpr (by omega)))
  refine Nat.le_trans (Nat.le_of_eq ?_) q
  unfold allB allOf
  have e : (List.range bs.length).length = bs.length := List.length_range
  induction shapes h with
  | nil => rfl
  | cons sh l ih =>
    rw [List.flatMap_cons, List.flatMap_cons, List.length_append, List.length_append, ih]
    congr 1
    split
    · rw [List.length_map, List.length_map]
      exact perms_count _ _ e.symm
    · rfl
end
end K19M
end

section
set_option autoImplicit false
set_option linter.all false
set_option maxRecDepth 100000
/-! M4: the checks carried to any boxes. -/
namespace K19M
section
variable {α : Type} [DecidableEq α]

theorem mem_allOf {h : List Nat} {n : Nat} {Y : Sd Nat} (f : fits h Y = true) (p : Y.flatten.Perm (List.range n)) : Y ∈ allOf h n := by
  refine List.mem_flatMap.mpr ⟨lens Y, mem_shapes f, ?_⟩
  rw [lens_sum, p.length_eq, List.length_range, if_pos rfl]
  exact List.mem_map.mpr ⟨Y.flatten, mem_perms p, split_lens Y⟩
theorem mem_covs {f u : Nat} (h1 : f ≤ u) (h2 : u < 3) : u ∈ covs f := List.mem_filter.mpr ⟨List.mem_range.mpr h2, decide_eq_true h1⟩
theorem lab_range (X : Sd α) (b : α) : (List.range X.flatten.length).map (fun i => X.flatten.getD i b) = X.flatten := by
  apply List.ext_getElem
  · rw [List.length_map, List.length_range]
  · intro i h1 h2
    rw [List.getElem_map, List.getElem_range, List.getD_eq_getElem?_getD, List.getElem?_eq_getElem h2]
    rfl
/-- the label's number -/
abbrev idx (X : Sd α) (x : α) : Nat := X.flatten.idxOf x
theorem lab_idx {X : Sd α} {b x : α} (h : x ∈ X.flatten) : X.flatten.getD (idx X x) b = x := by
  have hl := List.idxOf_lt_length_of_mem h
  rw [List.getD_eq_getElem?_getD, List.getElem?_eq_getElem hl]
  exact List.getElem_idxOf hl
theorem nodup_inj {l : List α} (nd : l.Nodup) {i j : Nat} (hi : i < l.length) (hj : j < l.length) {b : α} (e : l.getD i b = l.getD j b) : i = j := by
  rw [List.getD_eq_getElem?_getD, List.getD_eq_getElem?_getD, List.getElem?_eq_getElem hi, List.getElem?_eq_getElem hj] at e
  exact (List.getElem_inj nd).mp e
theorem idx_lab {X : Sd α} (nd : X.flatten.Nodup) {b : α} {i : Nat} (hi : i < X.flatten.length) : idx X (X.flatten.getD i b) = i := by
  have hm : X.flatten.getD i b ∈ X.flatten := by
    rw [List.getD_eq_getElem?_getD, List.getElem?_eq_getElem hi]
    exact List.getElem_mem hi
  exact nodup_inj nd (List.idxOf_lt_length_of_mem hm) hi (lab_idx (b := b) hm)
theorem range_lens (X : Sd α) : List.range (lens X).sum = List.range X.flatten.length := by rw [lens_sum]
theorem canon_flatten : ∀ (sh : List Nat) (l : List α), sh.sum = l.length → (split sh l).flatten = l
  | [], l, e => by
    have : l = [] := List.length_eq_zero_iff.mp e.symm
    rw [this]
    rfl
  | n :: sh, l, e => by
    have e' : n + sh.sum = l.length := by simpa using e
    show l.take n ++ (split sh (l.drop n)).flatten = l
    rw [canon_flatten sh (l.drop n) (by rw [List.length_drop]; omega), List.take_append_drop]

variable {h : List Nat} (hm : h ∈ menu) {X : Sd α} (fX : fits h X = true)
include hm fX

theorem k_chk : chkNext h (lens X) = true ∧ chkLow h (lens X) = true ∧ chkIn h (lens X) = true ∧ chkOut h (lens X) = true := by
  have q := List.all_eq_true.mp (List.all_eq_true.mp all_ok h hm) (lens X) (mem_shapes fX)
  obtain ⟨q, q4⟩ := Bool.and_eq_true_iff.mp q
  obtain ⟨q, q3⟩ := Bool.and_eq_true_iff.mp q
  obtain ⟨q1, q2⟩ := Bool.and_eq_true_iff.mp q
  exact ⟨q1, q2, q3, q4⟩
theorem k_next (d : α) {Y : Sd α} (hY : Y ∈ nexts h X) : Y.flatten.Perm X.flatten ∧ fits h Y = true ∧ ∀ u, h.sum - X.flatten.length ≤ u → u < 3 → low h u Y = low h u X := by
  have q := (k_chk hm fX).1
  have e := canon_rel X d
  rw [← e, nexts_rel] at hY
  obtain ⟨Y0, h0, rfl⟩ := List.mem_map.mp hY
  have q0 := List.all_eq_true.mp q Y0 h0
  obtain ⟨q1, q3⟩ := Bool.and_eq_true_iff.mp q0
  obtain ⟨q1, q2⟩ := Bool.and_eq_true_iff.mp q1
  refine ⟨?_, ?_, fun u h1 h2 => ?_⟩
  · have p := List.isPerm_iff.mp q1
    rw [lens_sum] at p
    rw [flatten_rel]
    have p2 := p.map (fun i => X.flatten.getD i d)
    rw [lab_range] at p2
    exact p2
  · rw [fits_rel]
    exact q2
  · rw [lens_sum] at q3
    have e2 := of_decide_eq_true (List.all_eq_true.mp q3 u (mem_covs h1 h2))
    conv => rhs; rw [← e]
    rw [low_rel, low_rel, e2]
theorem k_reach (d : α) {Y : Sd α} (r : Reach h X Y) : Y.flatten.Perm X.flatten ∧ fits h Y = true ∧ ∀ u, h.sum - X.flatten.length ≤ u → u < 3 → low h u Y = low h u X := by
  induction r with
  | refl => exact ⟨List.Perm.refl _, fX, fun _ _ _ => rfl⟩
  | @tail Y Z _ m ih =>
    obtain ⟨p, f, l⟩ := ih
    obtain ⟨p2, f2, l2⟩ := k_next hm f d m
    refine ⟨p2.trans p, f2, fun u h1 h2 => ?_⟩
    rw [l2 u (by rw [p.length_eq]; exact h1) h2, l u h1 h2]
theorem k_low (d : α) {u : Nat} (h1 : h.sum - X.flatten.length ≤ u) (h2 : u < 3) : (low h u X).flatten.length = owed h u := by
  have q := (k_chk hm fX).2.1
  unfold chkLow at q
  rw [lens_sum] at q
  have e := of_decide_eq_true (List.all_eq_true.mp q u (mem_covs h1 h2))
  rw [← e]
  conv => lhs; rw [← canon_rel X d]
  rw [low_rel, flatten_rel, List.length_map]
theorem k_conn (d : α) (nd : X.flatten.Nodup) {Y : Sd α} (fY : fits h Y = true) (p : Y.flatten.Perm X.flatten) (l : low h (h.sum - X.flatten.length) Y = low h (h.sum - X.flatten.length) X) : Reach h X Y := by
  have q := List.all_eq_true.mp (List.all_eq_true.mp conn_ok h hm) (lens X) (mem_shapes fX)
  have eX := canon_rel X d
  -- the numbers
  have ei : (X.flatten).map (idx X) = List.range X.flatten.length := by
    have e2 := congrArg (List.map (idx X)) (lab_range X d)
    rw [List.map_map] at e2
    rw [← e2]
    conv => rhs; rw [← List.map_id (List.range X.flatten.length)]
    refine List.map_congr_left fun i hi => ?_
    exact idx_lab nd (List.mem_range.mp hi)
  have ec : rel (idx X) X = canon (lens X) := by
    unfold canon
    rw [lens_sum, ← ei]
    have := split_map (idx X) (lens X) X.flatten
    rw [this, split_lens]
  have hY0 : rel (idx X) Y ∈ allOf h (lens X).sum := by
    rw [lens_sum]
    refine mem_allOf (by rw [fits_rel]; exact fY) ?_
    rw [flatten_rel, ← ei]
    exact p.map _
  have q0 := List.all_eq_true.mp q _ hY0
  have l0 : low h (h.sum - (lens X).sum) (rel (idx X) Y) = low h (h.sum - (lens X).sum) (canon (lens X)) := by
    rw [lens_sum, low_rel, l, ← ec, low_rel]
  rw [decide_eq_true l0, Bool.not_true, Bool.false_or] at q0
  obtain ⟨Z, hZ, r⟩ := spread_sound (of_decide_eq_true q0)
  rw [List.mem_singleton.mp hZ] at r
  have r2 := r.rel (fun i => X.flatten.getD i d)
  rw [eX, rel_rel] at r2
  have e3 : rel ((fun i => X.flatten.getD i d) ∘ idx X) Y = Y := by
    conv => rhs; rw [← rel_id Y]
    refine rel_congr fun x hx => ?_
    exact lab_idx (p.mem_iff.mp hx)
  rw [e3] at r2
  exact r2
theorem k_dig (nd : X.flatten.Nodup) {b : α} (hb : b ∈ X.flatten) (hn : b ∉ (low h (h.sum - X.flatten.length + 1) X).flatten) : ∃ Y, Reach h X Y ∧ ∃ Z, Z ∈ stepsOut h b Y := by
  have q := List.all_eq_true.mp (List.all_eq_true.mp dig_ok h hm) (lens X) (mem_shapes fX)
  have eX := canon_rel X b
  have hi : idx X b < X.flatten.length := List.idxOf_lt_length_of_mem hb
  have q0 := List.all_eq_true.mp q (idx X b) (List.mem_range.mpr (by rw [lens_sum]; exact hi))
  have n0 : idx X b ∉ (low h (h.sum - (lens X).sum + 1) (canon (lens X))).flatten := fun z => hn (by
    rw [lens_sum] at z
    have z2 := List.mem_map_of_mem (f := fun i => X.flatten.getD i b) z
    rw [← flatten_rel, ← low_rel, eX] at z2
    have e : X.flatten.getD (idx X b) b = b := lab_idx hb
    rw [e] at z2
    exact z2)
  rw [decide_eq_false n0, Bool.false_or] at q0
  obtain ⟨Y0, h0, s0⟩ := List.any_eq_true.mp q0
  obtain ⟨W, hW, r⟩ := spread_sound h0
  rw [List.mem_singleton.mp hW] at r
  have r2 := r.rel (fun i => X.flatten.getD i b)
  rw [eX] at r2
  refine ⟨_, r2, ?_⟩
  have fc : fits h (canon (lens X)) = true := by
    have := fX
    rw [← eX, fits_rel] at this
    exact this
  have p0 := (k_reach hm fc 0 r).1
  have pc : (canon (lens X)).flatten = List.range X.flatten.length := by
    unfold canon
    rw [canon_flatten _ _ (by rw [List.length_range]), lens_sum]
  rw [pc] at p0
  cases es : stepsOut h (idx X b) Y0 with
  | nil =>
    rw [es] at s0
    cases s0
  | cons Z0 zs =>
    refine ⟨rel (fun i => X.flatten.getD i b) Z0, ?_⟩
    have e : X.flatten.getD (idx X b) b = b := lab_idx hb
    have inj : ∀ x ∈ Y0.flatten, X.flatten.getD x b = X.flatten.getD (idx X b) b → x = idx X b := fun x hx ex =>
      nodup_inj nd (List.mem_range.mp (p0.mem_iff.mp hx)) hi ex
    have so := stepsOut_rel (h := h) inj
    rw [e] at so
    rw [so, es]
    exact List.mem_map.mpr ⟨Z0, List.mem_cons_self, rfl⟩
theorem k_in (b : α) (hn : X.flatten.length < h.sum) : (∃ Z, Z ∈ stepsIn h b X) ∧ ∀ Z ∈ stepsIn h b X, Z.flatten.Perm (X.flatten ++ [b]) ∧ fits h Z = true ∧ ∀ u, h.sum - X.flatten.length ≤ u → u < 3 → low h u Z = low h u X := by
  have q := (k_chk hm fX).2.2.1
  have eX := canon_rel X b
  unfold chkIn at q
  rw [lens_sum, decide_eq_false (by omega : ¬ X.flatten.length = h.sum), Bool.false_or] at q
  obtain ⟨q1, q2⟩ := Bool.and_eq_true_iff.mp q
  have eb : X.flatten.getD X.flatten.length b = b := by
    rw [List.getD_eq_getElem?_getD, List.getElem?_eq_none (Nat.le_refl _)]
    rfl
  have es : stepsIn h b X = (stepsIn h X.flatten.length (canon (lens X))).map (rel fun i => X.flatten.getD i b) := by
    have := stepsIn_rel (fun i => X.flatten.getD i b) h X.flatten.length (canon (lens X))
    rw [eb, eX] at this
    exact this
  refine ⟨?_, fun Z hZ => ?_⟩
  · cases e0 : stepsIn h X.flatten.length (canon (lens X)) with
    | nil =>
      rw [e0] at q1
      cases q1
    | cons Z0 zs =>
      rw [es, e0]
      exact ⟨_, List.mem_map.mpr ⟨Z0, List.mem_cons_self, rfl⟩⟩
  · rw [es] at hZ
    obtain ⟨Z0, h0, rfl⟩ := List.mem_map.mp hZ
    obtain ⟨r1, r3⟩ := Bool.and_eq_true_iff.mp (List.all_eq_true.mp q2 Z0 h0)
    obtain ⟨r1, r2⟩ := Bool.and_eq_true_iff.mp r1
    refine ⟨?_, by rw [fits_rel]; exact r2, fun u h1 h2 => ?_⟩
    · have p := (List.isPerm_iff.mp r1).map (fun i => X.flatten.getD i b)
      rw [List.range_succ, List.map_append, lab_range, List.map_cons, List.map_nil, eb] at p
      rw [flatten_rel]
      exact p
    · have e2 := of_decide_eq_true (List.all_eq_true.mp r3 u (mem_covs h1 h2))
      conv => rhs; rw [← eX]
      rw [low_rel, low_rel, e2]
theorem stepsOut_mem {b : α} {Z : Sd α} (hZ : Z ∈ stepsOut h b X) : b ∈ X.flatten := by
  obtain ⟨i, _, e⟩ := List.mem_filterMap.mp hZ
  by_cases c : lastL (X.getD i []) = [b]
  · exact getD_mem (lastL_mem (by rw [c]; exact List.mem_cons_self))
  · rw [if_neg c] at e
    cases e
theorem k_out (nd : X.flatten.Nodup) {b : α} {Z : Sd α} (hZ : Z ∈ stepsOut h b X) :
    Z.flatten.Perm (X.flatten.erase b) ∧ fits h Z = true ∧ (∀ u, h.sum - X.flatten.length + 1 ≤ u → u < 3 → low h u Z = low h u X) ∧ X ∈ stepsIn h b Z := by
  have q := (k_chk hm fX).2.2.2
  have eX := canon_rel X b
  have hb := stepsOut_mem hm fX hZ
  have hi : idx X b < X.flatten.length := List.idxOf_lt_length_of_mem hb
  have eb : X.flatten.getD (idx X b) b = b := lab_idx hb
  have pc : (canon (lens X)).flatten = List.range X.flatten.length := by
    unfold canon
    rw [canon_flatten _ _ (by rw [List.length_range]), lens_sum]
  have inj : ∀ x ∈ (canon (lens X)).flatten, X.flatten.getD x b = X.flatten.getD (idx X b) b → x = idx X b := fun x hx ex => by
    rw [pc] at hx
    exact nodup_inj nd (List.mem_range.mp hx) hi ex
  have es : stepsOut h b X = (stepsOut h (idx X b) (canon (lens X))).map (rel fun i => X.flatten.getD i b) := by
    have := stepsOut_rel (h := h) inj
    rw [eb, eX] at this
    exact this
  rw [es] at hZ
  obtain ⟨Z0, h0, rfl⟩ := List.mem_map.mp hZ
  have q0 := List.all_eq_true.mp (List.all_eq_true.mp q (idx X b) (List.mem_range.mpr (by rw [lens_sum]; exact hi))) Z0 h0
  obtain ⟨r1, r4⟩ := Bool.and_eq_true_iff.mp q0
  obtain ⟨r1, r3⟩ := Bool.and_eq_true_iff.mp r1
  obtain ⟨r1, r2⟩ := Bool.and_eq_true_iff.mp r1
  refine ⟨?_, by rw [fits_rel]; exact r2, fun u h1 h2 => ?_, ?_⟩
  · have p := List.isPerm_iff.mp r1
    rw [lens_sum] at p
    have hr : idx X b ∈ List.range X.flatten.length := List.mem_range.mpr hi
    have p1 := ((List.perm_cons_erase hr).symm.trans (List.Perm.refl _))
    have p2 : (idx X b :: Z0.flatten).Perm (List.range X.flatten.length) := (p.cons _).trans p1
    have p3 := p2.map (fun i => X.flatten.getD i b)
    rw [lab_range, List.map_cons, eb, ← flatten_rel] at p3
    have p4 := p3.trans (List.perm_cons_erase hb)
    exact p4.cons_inv
  · rw [lens_sum] at r3
    have e2 := of_decide_eq_true (List.all_eq_true.mp r3 u (mem_covs h1 h2))
    conv => rhs; rw [← eX]
    rw [low_rel, low_rel, e2]
  · have m := List.mem_map_of_mem (f := rel fun i => X.flatten.getD i b) (of_decide_eq_true r4)
    rw [eX, ← stepsIn_rel, eb] at m
    exact m
end
end K19M
end

section
set_option autoImplicit false
set_option linter.all false
set_option maxRecDepth 100000
/-! M5: which standings can be reached: those whose deep boxes came in time. -/
namespace K19M
section
variable {α : Type} [DecidableEq α]

/-- the standing is of the boxes B, and each box in a place of cover u (from the free places on) has a mark above u -/
structure Good (h : List Nat) (B : List α) (mk : α → Nat) (X : Sd α) : Prop where
  fit : fits h X = true
  bs : X.flatten.Perm B
  dp : ∀ u, h.sum - B.length ≤ u → u < 3 → ∀ b ∈ (low h u X).flatten, u < mk b
def Hall (h : List Nat) (B : List α) (mk : α → Nat) : Prop := ∀ u, h.sum - B.length ≤ u → u < 3 → owed h u ≤ B.countP fun b => decide (u < mk b)

/-! ### low -/
theorem low_sub (h : List Nat) (u : Nat) (X : Sd α) : (low h u X).flatten.Sublist X.flatten := by
  induction X generalizing h with
  | nil =>
    cases h <;> exact List.Sublist.refl _
  | cons st X ih =>
    cases h with
    | nil => exact List.nil_sublist _
    | cons n h =>
      show ((st.take (n - u)) ++ (low h u X).flatten).Sublist (st ++ X.flatten)
      exact List.Sublist.append (List.take_sublist _ _) (ih h)
theorem low_anti (h : List Nat) {u v : Nat} (uv : u ≤ v) (X : Sd α) : ∀ x ∈ (low h v X).flatten, x ∈ (low h u X).flatten := by
  induction X generalizing h with
  | nil =>
    cases h <;> exact fun x hx => hx
  | cons st X ih =>
    cases h with
    | nil => exact fun x hx => hx
    | cons n h =>
      intro x hx
      have hx : x ∈ (st.take (n - v)) ++ (low h v X).flatten := hx
      show x ∈ (st.take (n - u)) ++ (low h u X).flatten
      rcases List.mem_append.mp hx with z | z
      · refine List.mem_append_left _ ?_
        have : (st.take (n - v)).Sublist (st.take (n - u)) := List.take_sublist_take_left (by omega)
        exact this.subset z
      · exact List.mem_append_right _ (ih h x z)
theorem menu_le : ∀ h ∈ menu, ∀ n ∈ h, n ≤ 3 := by decide
theorem menu_sum : ∀ h ∈ menu, h.sum = 5 := by decide
theorem low_none {h : List Nat} (hh : ∀ n ∈ h, n ≤ 3) {u : Nat} (hu : 3 ≤ u) (X : Sd α) : (low h u X).flatten = [] := by
  induction X generalizing h with
  | nil =>
    cases h <;> rfl
  | cons st X ih =>
    cases h with
    | nil => rfl
    | cons n h =>
      show (st.take (n - u)) ++ (low h u X).flatten = []
      have : n - u = 0 := by
        have := hh n List.mem_cons_self
        omega
      rw [this, ih fun m hm => hh m (List.mem_cons_of_mem _ hm)]
      rfl

/-! ### swapping two boxes -/
def sw (c d x : α) : α := if x = c then d else if x = d then c else x
theorem sw_l (c d : α) : sw c d c = d := if_pos rfl
theorem sw_r (c d : α) : sw c d d = c := by
  unfold sw
  by_cases e : d = c
  · rw [if_pos e, e]
  · rw [if_neg e, if_pos rfl]
theorem sw_o {c d x : α} (h1 : x ≠ c) (h2 : x ≠ d) : sw c d x = x := by
  unfold sw
  rw [if_neg h1, if_neg h2]
theorem sw_sw (c d x : α) : sw c d (sw c d x) = x := by
  by_cases h1 : x = c
  · rw [h1, sw_l, sw_r]
  · by_cases h2 : x = d
    · rw [h2, sw_r, sw_l]
    · rw [sw_o h1 h2, sw_o h1 h2]
theorem nodup_map_inj {β : Type} {f : α → β} : ∀ {l : List α}, (∀ x ∈ l, ∀ y ∈ l, f x = f y → x = y) → l.Nodup → (l.map f).Nodup
  | [], _, _ => List.nodup_nil
  | a :: l, inj, nd => by
    obtain ⟨n1, n2⟩ := List.nodup_cons.mp nd
    rw [List.map_cons, List.nodup_cons]
    refine ⟨fun q => ?_, nodup_map_inj (fun x hx y hy => inj x (List.mem_cons_of_mem _ hx) y (List.mem_cons_of_mem _ hy)) n2⟩
    obtain ⟨y, hy, e⟩ := List.mem_map.mp q
    have := inj y (List.mem_cons_of_mem _ hy) a List.mem_cons_self e
    exact n1 (this ▸ hy)
theorem sw_perm {l : List α} (nd : l.Nodup) {c d : α} (hc : c ∈ l) (hd : d ∈ l) : (l.map (sw c d)).Perm l := by
  refine (List.perm_ext_iff_of_nodup (nodup_map_inj (fun x _ y _ e => ?_) nd) nd).mpr fun x => ?_
  · have := congrArg (sw c d) e
    rw [sw_sw, sw_sw] at this
    exact this
  · have key : ∀ y ∈ l, sw c d y ∈ l := fun y hy => by
      by_cases h1 : y = c
      · rw [h1, sw_l]
        exact hd
      · by_cases h2 : y = d
        · rw [h2, sw_r]
          exact hc
        · rw [sw_o h1 h2]
          exact hy
    constructor
    · intro q
      obtain ⟨y, hy, rfl⟩ := List.mem_map.mp q
      exact key y hy
    · intro q
      exact List.mem_map.mpr ⟨sw c d x, key x q, sw_sw c d x⟩
theorem mem_sw {l : List α} {c d x : α} (q : x ∈ l.map (sw c d)) : ∃ y ∈ l, x = sw c d y := by
  obtain ⟨y, hy, e⟩ := List.mem_map.mp q
  exact ⟨y, hy, e.symm⟩

/-! ### counting -/
/-- more of a kind than places: one of the kind lies elsewhere -/
theorem outside {L K : List α} (nK : K.Nodup) {c : α} (hc : c ∈ L) (ck : c ∉ K) (hl : L.length ≤ K.length) : ∃ d ∈ K, d ∉ L := by
  refine Classical.byContradiction fun q => ?_
  have sub : K ⊆ L.erase c := fun d hd => by
    have hdL : d ∈ L := Classical.byContradiction fun z => q ⟨d, hd, z⟩
    have hne : d ≠ c := fun e => ck (e ▸ hd)
    exact (List.mem_erase_of_ne hne).mpr hdL
  have l1 := nK.length_le_of_subset sub
  have l2 := List.length_erase_of_mem hc
  have l3 : 0 < L.length := List.length_pos_of_mem hc
  omega
theorem good_hall {h : List Nat} (hm : h ∈ menu) {B : List α} {mk : α → Nat} (nB : B.Nodup) {X : Sd α} (g : Good h B mk X) : Hall h B mk := by
  intro u h1 h2
  cases B with
  | nil =>
    have e : X.flatten = [] := List.Perm.eq_nil g.bs
    have h3 : h.sum - 0 ≤ u := h1
    have := menu_sum h hm
    omega
  | cons d B0 =>
    have l := k_low hm g.fit d (u := u) (by rw [g.bs.length_eq]; exact h1) h2
    rw [← l, List.countP_eq_length_filter]
    have nX : X.flatten.Nodup := g.bs.nodup_iff.mpr nB
    refine (List.Nodup.sublist (low_sub h u X) nX).length_le_of_subset fun b hb => ?_
    exact List.mem_filter.mpr ⟨g.bs.mem_iff.mp ((low_sub h u X).subset hb), decide_eq_true (g.dp u h1 h2 b hb)⟩

/-! ### exchange: b out of the deep places -/
theorem lower {h : List Nat} (hm : h ∈ menu) {B : List α} {mk : α → Nat} (nB : B.Nodup) {b : α} (hb : b ∈ B)
    (hall : ∀ u, h.sum - B.length + 1 ≤ u → u < 3 → owed h u ≤ (B.erase b).countP fun x => decide (u < mk x)) :
    ∀ (k : Nat) (X : Sd α), Good h B mk X → b ∉ (low h (h.sum - B.length + 1 + k) X).flatten → ∃ X', Good h B mk X' ∧ b ∉ (low h (h.sum - B.length + 1) X').flatten
  | 0, X, g, q => ⟨X, g, q⟩
  | k + 1, X, g, q => by
    by_cases c : b ∈ (low h (h.sum - B.length + 1 + k) X).flatten
    · have v3 : h.sum - B.length + 1 + k < 3 := Nat.lt_of_not_le fun z => by
        rw [low_none (menu_le h hm) z X] at c
        cases c
      have nX : X.flatten.Nodup := g.bs.nodup_iff.mpr nB
      have l := k_low hm g.fit b (u := h.sum - B.length + 1 + k) (by rw [g.bs.length_eq]; omega) v3
      have hh := hall _ (Nat.le_add_right _ k) v3
      rw [List.countP_eq_length_filter, ← l] at hh
      have nE : (B.erase b).Nodup := nB.erase b
      obtain ⟨d, hd, dn⟩ := outside (nE.filter _) c (fun z => by
        have := (List.mem_filter.mp z).1
        exact (List.Nodup.mem_erase_iff nB).mp this |>.1 rfl) hh
      obtain ⟨hd1, hd2⟩ := List.mem_filter.mp hd
      have hd2 := of_decide_eq_true hd2
      have hdB : d ∈ B := List.mem_of_mem_erase hd1
      have mb := g.dp _ (by omega) v3 b c
      refine lower hm nB hb hall k (rel (sw b d) X) ⟨by rw [fits_rel]; exact g.fit, ?_, fun u h1 h2 y hy => ?_⟩ fun z => ?_
      · rw [flatten_rel]
        exact (sw_perm nX (g.bs.mem_iff.mpr hb) (g.bs.mem_iff.mpr hdB)).trans g.bs
      · rw [low_rel, flatten_rel] at hy
        obtain ⟨x, hx, rfl⟩ := mem_sw hy
        by_cases e1 : x = b
        · subst e1
          rw [sw_l]
          have : u ≤ h.sum - B.length + 1 + k := Nat.le_of_not_lt fun z => q (low_anti h (by omega) X _ hx)
          omega
        · by_cases e2 : x = d
          · subst e2
            rw [sw_r]
            have : u < h.sum - B.length + 1 + k := Nat.lt_of_not_le fun z => dn (low_anti h z X _ hx)
            omega
          · rw [sw_o e1 e2]
            exact g.dp u h1 h2 x hx
      · rw [low_rel, flatten_rel] at z
        obtain ⟨x, hx, e⟩ := mem_sw z
        have e2 : sw b d b = x := by
          have e3 := congrArg (sw b d) e
          rw [sw_sw] at e3
          exact e3
        rw [sw_l] at e2
        exact dn (e2 ▸ hx)
    · exact lower hm nB hb hall k X g c

/-! ### exchange: the places that have just this cover -/
theorem countP_less {p q : α → Bool} {l : List α} (h1 : ∀ x ∈ l, p x = true → q x = true) {c : α} (hc : c ∈ l) (hp : p c = false) (hq : q c = true) : l.countP p < l.countP q := by
  obtain ⟨s, t, rfl⟩ := List.append_of_mem hc
  rw [List.countP_append, List.countP_append, List.countP_cons, List.countP_cons, hp, hq]
  have a : s.countP p ≤ s.countP q := List.countP_mono_left fun x hx => h1 x (List.mem_append_left _ hx)
  have b : t.countP p ≤ t.countP q := List.countP_mono_left fun x hx => h1 x (List.mem_append_right _ (List.mem_cons_of_mem _ hx))
  rw [if_neg Bool.false_ne_true, if_pos rfl]
  omega
theorem fill {h : List Nat} (hm : h ∈ menu) {B : List α} {mk : α → Nat} (nB : B.Nodup) (hall : Hall h B mk) :
    ∀ (k : Nat) (Z : Sd α), fits h Z = true → Z.flatten.Perm B → (∀ u, h.sum - B.length + 1 ≤ u → u < 3 → ∀ b ∈ (low h u Z).flatten, u < mk b) →
      (low h (h.sum - B.length) Z).flatten.countP (fun b => decide (mk b ≤ h.sum - B.length)) ≤ k → ∃ Z', Good h B mk Z' ∧ low h (h.sum - B.length + 1) Z' = low h (h.sum - B.length + 1) Z
  | k, Z, fZ, pZ, dZ, ck => by
    by_cases bad : ∃ c ∈ (low h (h.sum - B.length) Z).flatten, mk c ≤ h.sum - B.length
    · obtain ⟨c, hc, mc⟩ := bad
      have f3 : h.sum - B.length < 3 := Nat.lt_of_not_le fun z => by
        rw [low_none (menu_le h hm) z Z] at hc
        cases hc
      have nZ : Z.flatten.Nodup := pZ.nodup_iff.mpr nB
      have l := k_low hm fZ c (u := h.sum - B.length) (by rw [pZ.length_eq]; exact Nat.le_refl _) f3
      have hh := hall _ (Nat.le_refl _) f3
      rw [List.countP_eq_length_filter, ← l] at hh
      obtain ⟨d, hd, dn⟩ := outside (nB.filter _) hc (fun z => by
        have := of_decide_eq_true (List.mem_filter.mp z).2
        omega) hh
      obtain ⟨hd1, hd2⟩ := List.mem_filter.mp hd
      have hd2 := of_decide_eq_true hd2
      have hcB : c ∈ B := pZ.mem_iff.mp ((low_sub h _ Z).subset hc)
      -- neither is deeper
      have cn : c ∉ (low h (h.sum - B.length + 1) Z).flatten := fun z => by
        by_cases f4 : h.sum - B.length + 1 < 3
        · have := dZ _ (Nat.le_refl _) f4 c z
          omega
        · rw [low_none (menu_le h hm) (by omega) Z] at z
          cases z
      have dn2 : d ∉ (low h (h.sum - B.length + 1) Z).flatten := fun z => dn (low_anti h (Nat.le_succ _) Z _ z)
      have same : ∀ u, h.sum - B.length + 1 ≤ u → low h u (rel (sw c d) Z) = low h u Z := fun u hu => by
        rw [low_rel]
        conv => rhs; rw [← rel_id (low h u Z)]
        refine rel_congr fun x hx => ?_
        have hx2 := low_anti h hu Z x hx
        exact sw_o (fun e => cn (e ▸ hx2)) (fun e => dn2 (e ▸ hx2))
      have less : (low h (h.sum - B.length) (rel (sw c d) Z)).flatten.countP (fun b => decide (mk b ≤ h.sum - B.length)) < (low h (h.sum - B.length) Z).flatten.countP (fun b => decide (mk b ≤ h.sum - B.length)) := by
        rw [low_rel, flatten_rel, List.countP_map]
        refine countP_less (fun x hx q => ?_) hc ?_ (decide_eq_true mc)
        · have q : decide (mk (sw c d x) ≤ h.sum - B.length) = true := q
          by_cases e1 : x = c
          · rw [e1]
            exact decide_eq_true mc
          · have e2 : x ≠ d := fun e => dn (e ▸ hx)
            rw [sw_o e1 e2] at q
            exact q
        · show decide (mk (sw c d c) ≤ h.sum - B.length) = false
          rw [sw_l]
          exact decide_eq_false (by omega)
      cases k with
      | zero => omega
      | succ k =>
        obtain ⟨Z', g, e⟩ := fill hm nB hall k (rel (sw c d) Z) (by rw [fits_rel]; exact fZ) (by
          rw [flatten_rel]
          exact (sw_perm nZ (pZ.mem_iff.mpr hcB) (pZ.mem_iff.mpr hd1)).trans pZ) (fun u h1 h2 b hb => by
          rw [same u h1] at hb
          exact dZ u h1 h2 b hb) (by omega)
        exact ⟨Z', g, by rw [e, same _ (Nat.le_refl _)]⟩
    · refine ⟨Z, ⟨fZ, pZ, fun u h1 h2 b hb => ?_⟩, rfl⟩
      rcases Nat.lt_or_ge (h.sum - B.length) u with z | z
      · exact dZ u z h2 b hb
      · have : u = h.sum - B.length := by omega
        subst this
        exact Nat.lt_of_not_le fun z => bad ⟨b, hb, z⟩
end
end K19M
end

section
set_option autoImplicit false
set_option linter.all false
set_option maxRecDepth 100000
/-! M6: the first event that cannot be done, by marks. -/
namespace K19M
section
variable {α : Type} [DecidableEq α]

def stB (B : List α) (e : Bool × α) : List α := if e.1 then B ++ [e.2] else B.erase e.2
/-- f: the free places ahead of the event -/
def stM (f : Nat) (mk : α → Nat) (e : Bool × α) : α → Nat := if e.1 then fun x => if x = e.2 then f else mk x else fun x => max (mk x) (f + 1)
def hallB (h : List Nat) (B : List α) (mk : α → Nat) : Bool := (List.range 3).all fun u => decide (u < h.sum - B.length) || decide (owed h u ≤ B.countP fun b => decide (u < mk b))
theorem hallB_iff {h : List Nat} {B : List α} {mk : α → Nat} : hallB h B mk = true ↔ Hall h B mk := by
  constructor
  · intro q u h1 h2
    have z := List.all_eq_true.mp q u (List.mem_range.mpr h2)
    rw [decide_eq_false (by omega : ¬ u < h.sum - B.length), Bool.false_or] at z
    exact of_decide_eq_true z
  · intro q
    refine List.all_eq_true.mpr fun u hu => ?_
    have h2 := List.mem_range.mp hu
    by_cases h1 : u < h.sum - B.length
    · rw [decide_eq_true h1, Bool.true_or]
    · rw [decide_eq_true (q u (by omega) h2), Bool.or_true]
def firstBad (h : List Nat) : List α → (α → Nat) → Nat → List (Bool × α) → Option Nat
  | _, _, _, [] => none
  | B, mk, at_, e :: es => if hallB h (stB B e) (stM (h.sum - B.length) mk e) then firstBad h (stB B e) (stM (h.sum - B.length) mk e) (at_ + 1) es else some at_
/-- events that fit -/
def Valid (P : Nat) : List α → List (Bool × α) → Prop
  | _, [] => True
  | B, e :: es => (if e.1 = true then e.2 ∉ B ∧ B.length < P else e.2 ∈ B) ∧ Valid P (stB B e) es

theorem low_big {h : List Nat} (hh : ∀ n ∈ h, n ≤ 3) {u : Nat} (hu : 3 ≤ u) {X Y : Sd α} (fX : fits h X = true) (fY : fits h Y = true) : low h u X = low h u Y := by
  have key : ∀ (h : List Nat), (∀ n ∈ h, n ≤ 3) → ∀ X Y : Sd α, X.length = h.length → Y.length = h.length → low h u X = low h u Y := by
    intro h
    induction h with
    | nil => exact fun _ X Y _ _ => rfl
    | cons n h ih =>
      intro hh X Y lX lY
      cases X with
      | nil => cases lX
      | cons s X =>
        cases Y with
        | nil => cases lY
        | cons t Y =>
          show s.take (n - u) :: low h u X = t.take (n - u) :: low h u Y
          have : n - u = 0 := by
            have := hh n List.mem_cons_self
            omega
          rw [this, List.take_zero, List.take_zero, ih (fun m hm => hh m (List.mem_cons_of_mem _ hm)) X Y (Nat.succ.inj lX) (Nat.succ.inj lY)]
  have l1 : X.length = h.length := of_decide_eq_true (Bool.and_eq_true_iff.mp fX).1
  have l2 : Y.length = h.length := of_decide_eq_true (Bool.and_eq_true_iff.mp fY).1
  exact key h hh X Y l1 l2
theorem mem_after {h : List Nat} {S : List (Sd α)} {e : Bool × α} {Z : Sd α} : Z ∈ after h S e ↔ ∃ X ∈ S, Z ∈ stepsEv h e X := by
  unfold after
  rw [mem_addAll, List.mem_flatMap]
  constructor
  · rintro (z | z)
    · cases z
    · exact z
  · exact .inr
theorem good_reach {h : List Nat} (hm : h ∈ menu) {B : List α} {mk : α → Nat} (d : α) {X Y : Sd α} (g : Good h B mk X) (r : Reach h X Y) : Good h B mk Y := by
  obtain ⟨p, f, l⟩ := k_reach hm g.fit d r
  refine ⟨f, p.trans g.bs, fun u h1 h2 b hb => ?_⟩
  rw [l u (by rw [g.bs.length_eq]; exact h1) h2] at hb
  exact g.dp u h1 h2 b hb
/-- two good standings with the same deep parts -/
theorem conn {h : List Nat} (hm : h ∈ menu) {B : List α} (nB : B.Nodup) (d : α) {X Y : Sd α} (fX : fits h X = true) (pX : X.flatten.Perm B) (fY : fits h Y = true) (pY : Y.flatten.Perm B)
    (l : h.sum - B.length < 3 → low h (h.sum - B.length) Y = low h (h.sum - B.length) X) : Reach h X Y := by
  refine k_conn hm fX d (pX.nodup_iff.mpr nB) fY (pY.trans pX.symm) ?_
  rw [pX.length_eq]
  rcases Nat.lt_or_ge (h.sum - B.length) 3 with z | z
  · exact l z
  · exact low_big (menu_le h hm) z fY fX
/-- what the search has: all good standings -/
def Holds (h : List Nat) (B : List α) (mk : α → Nat) (A : List (Sd α)) : Prop := ∀ X, X ∈ spread h A ↔ Good h B mk X
theorem holds_of {h : List Nat} (hm : h ∈ menu) {B : List α} {mk : α → Nat} (nB : B.Nodup) (lB : B.length ≤ 5) (d : α) {A : List (Sd α)} (nA : A.Nodup) (sound : ∀ Z ∈ A, Good h B mk Z)
    (comp : ∀ Y, Good h B mk Y → ∃ Z ∈ A, Reach h Z Y) : Holds h B mk A := by
  intro X
  constructor
  · intro q
    obtain ⟨Y, hY, r⟩ := spread_sound q
    exact good_reach hm d (sound Y hY) r
  · intro g
    obtain ⟨Z, hZ, r⟩ := comp X g
    have inn : ∀ {X : Sd α}, fits h X = true → X.flatten.Perm B → X ∈ (allB h B).filter fun X => fits h X && X.flatten.isPerm B := fun f p =>
      List.mem_filter.mpr ⟨mem_allB f p, by rw [f, List.isPerm_iff.mpr p]; rfl⟩
    refine spread_reach (B := (allB h B).filter fun X => fits h X && X.flatten.isPerm B) (fun X hX Y hY => ?_) (Nat.le_trans (List.length_filter_le _ _) (allB_len hm lB)) nA (fun Z hZ => inn (sound Z hZ).fit (sound Z hZ).bs) hZ r
    obtain ⟨fX, pX⟩ := Bool.and_eq_true_iff.mp (List.mem_filter.mp hX).2
    obtain ⟨p, f, _⟩ := k_next hm fX d hY
    exact inn f (p.trans (List.isPerm_iff.mp pX))

/-! ### a box comes -/
theorem step_in {h : List Nat} (hm : h ∈ menu) {B : List α} {mk : α → Nat} {A : List (Sd α)} {b : α} (nB : B.Nodup) (lB : B.length < 5) (hb : b ∉ B) (mB : ∀ x ∈ B, h.sum - B.length ≤ mk x) (nA : A.Nodup) (neA : A ≠ []) (hA : Holds h B mk A) :
    after h (spread h A) (true, b) ≠ [] ∧ Holds h (B ++ [b]) (stM (h.sum - B.length) mk (true, b)) (after h (spread h A) (true, b)) ∧ Hall h (B ++ [b]) (stM (h.sum - B.length) mk (true, b)) := by
  have h5 := menu_sum h hm
  have nB2 : (B ++ [b]).Nodup := by
    rw [List.nodup_append]
    refine ⟨nB, List.nodup_cons.mpr ⟨List.not_mem_nil, List.nodup_nil⟩, fun x hx y hy => ?_⟩
    rw [List.mem_singleton.mp hy]
    rintro rfl
    exact hb hx
  have len2 : (B ++ [b]).length = B.length + 1 := by rw [List.length_append]; rfl
  have mb : stM (h.sum - B.length) mk (true, b) b = h.sum - B.length := if_pos rfl
  have mo : ∀ x ∈ B, stM (h.sum - B.length) mk (true, b) x = mk x := fun x hx => if_neg fun e => hb (show b ∈ B from (show x = b from e) ▸ hx)
  -- what comes is good
  have sound : ∀ Z ∈ after h (spread h A) (true, b), Good h (B ++ [b]) (stM (h.sum - B.length) mk (true, b)) Z := by
    intro Z hZ
    obtain ⟨X, hX, hs⟩ := mem_after.mp hZ
    have hs : Z ∈ stepsIn h b X := hs
    have g := (hA X).mp hX
    obtain ⟨p, f, l⟩ := (k_in hm g.fit b (by rw [g.bs.length_eq]; omega)).2 Z hs
    have p2 : Z.flatten.Perm (B ++ [b]) := p.trans (g.bs.append_right [b])
    refine ⟨f, p2, fun u h1 h2 y hy => ?_⟩
    rw [len2] at h1
    rcases Nat.lt_or_ge u (h.sum - B.length) with c | c
    · have hy2 := p2.mem_iff.mp ((low_sub h u Z).subset hy)
      rcases List.mem_append.mp hy2 with z | z
      · rw [mo y z]
        have := mB y z
        omega
      · rw [List.mem_singleton.mp z, mb]
        exact c
    · rw [l u (by rw [g.bs.length_eq]; exact c) h2] at hy
      have hyB := g.bs.mem_iff.mp ((low_sub h u X).subset hy)
      rw [mo y hyB]
      exact g.dp u c h2 y hy
  have ne : after h (spread h A) (true, b) ≠ [] := by
    intro e
    cases A with
    | nil => exact neA rfl
    | cons X0 A0 =>
      have hX0 : X0 ∈ spread h (X0 :: A0) := spreadGo_start h 400 0 _ _ List.mem_cons_self
      have g := (hA X0).mp hX0
      obtain ⟨Z, hZ⟩ := (k_in hm g.fit b (by rw [g.bs.length_eq]; omega)).1
      have : Z ∈ after h (spread h (X0 :: A0)) (true, b) := mem_after.mpr ⟨X0, hX0, hZ⟩
      rw [e] at this
      cases this
  refine ⟨ne, holds_of hm nB2 (by rw [len2]; omega) b (nodup_addAll _ _ List.nodup_nil) sound fun Y g => ?_, ?_⟩
  · -- dig b
    have hbY : b ∈ Y.flatten := g.bs.mem_iff.mpr (List.mem_append_right _ List.mem_cons_self)
    have nY : Y.flatten.Nodup := g.bs.nodup_iff.mpr nB2
    have lY : Y.flatten.length = B.length + 1 := by rw [g.bs.length_eq, len2]
    have ef : h.sum - Y.flatten.length + 1 = h.sum - B.length := by rw [lY]; omega
    have bn : b ∉ (low h (h.sum - B.length) Y).flatten := fun z => by
      rcases Nat.lt_or_ge (h.sum - B.length) 3 with c | c
      · have := g.dp _ (by rw [len2]; omega) c b z
        rw [mb] at this
        omega
      · rw [low_none (menu_le h hm) c] at z
        cases z
    obtain ⟨Z, r, W, hW⟩ := k_dig hm g.fit nY hbY (by rw [ef]; exact bn)
    have gZ := good_reach hm b g r
    have nZ : Z.flatten.Nodup := gZ.bs.nodup_iff.mpr nB2
    have lZ : Z.flatten.length = B.length + 1 := by rw [gZ.bs.length_eq, len2]
    obtain ⟨pW, fW, lW, sW⟩ := k_out hm gZ.fit nZ hW
    have pW2 : W.flatten.Perm B := by
      have p1 := gZ.bs.erase b
      have p2 : (B ++ [b]).Perm (b :: B) := List.perm_append_singleton b B
      have p3 := p2.erase b
      rw [List.erase_cons_head] at p3
      exact pW.trans (p1.trans p3)
    have lr := (k_reach hm g.fit b r).2.2
    have gW : Good h B mk W := by
      refine ⟨fW, pW2, fun u h1 h2 y hy => ?_⟩
      have hyB := pW2.mem_iff.mp ((low_sub h u W).subset hy)
      rw [lW u (by rw [lZ]; omega) h2, lr u (by rw [lY]; omega) h2] at hy
      have := g.dp u (by rw [len2]; omega) h2 y hy
      rw [mo y hyB] at this
      exact this
    refine ⟨Z, mem_after.mpr ⟨W, (hA W).mpr gW, sW⟩, ?_⟩
    refine conn hm nB2 b gZ.fit gZ.bs g.fit g.bs fun c => ?_
    exact (lr _ (by rw [lY, len2]; exact Nat.le_refl _) c).symm
  · cases e : after h (spread h A) (true, b) with
    | nil => exact absurd e ne
    | cons Z zs => exact good_hall hm nB2 (sound Z (by rw [e]; exact List.mem_cons_self))

/-! ### a box goes -/
theorem step_out {h : List Nat} (hm : h ∈ menu) {B : List α} {mk : α → Nat} {A : List (Sd α)} {b : α} (nB : B.Nodup) (lB : B.length ≤ 5) (hb : b ∈ B) (nA : A.Nodup) (neA : A ≠ []) (hA : Holds h B mk A) :
    (Hall h (B.erase b) (stM (h.sum - B.length) mk (false, b)) → after h (spread h A) (false, b) ≠ [] ∧ Holds h (B.erase b) (stM (h.sum - B.length) mk (false, b)) (after h (spread h A) (false, b))) ∧
    (¬ Hall h (B.erase b) (stM (h.sum - B.length) mk (false, b)) → after h (spread h A) (false, b) = []) := by
  have h5 := menu_sum h hm
  have nE : (B.erase b).Nodup := nB.erase b
  have lE : (B.erase b).length = B.length - 1 := List.length_erase_of_mem hb
  have l0 : 0 < B.length := List.length_pos_of_mem hb
  have ef : h.sum - (B.erase b).length = h.sum - B.length + 1 := by rw [lE]; omega
  have mm : ∀ x, stM (h.sum - B.length) mk (false, b) x = max (mk x) (h.sum - B.length + 1) := fun _ => rfl
  have sound : ∀ Z ∈ after h (spread h A) (false, b), Good h (B.erase b) (stM (h.sum - B.length) mk (false, b)) Z := by
    intro Z hZ
    obtain ⟨X, hX, hs⟩ := mem_after.mp hZ
    have hs : Z ∈ stepsOut h b X := hs
    have g := (hA X).mp hX
    obtain ⟨p, f, l, _⟩ := k_out hm g.fit (g.bs.nodup_iff.mpr nB) hs
    refine ⟨f, p.trans (g.bs.erase b), fun u h1 h2 y hy => ?_⟩
    rw [ef] at h1
    rw [l u (by rw [g.bs.length_eq]; exact h1) h2] at hy
    have := g.dp u (by omega) h2 y hy
    rw [mm]
    omega
  obtain ⟨X0, hX0⟩ : ∃ X0, X0 ∈ spread h A := by
    cases A with
    | nil => exact absurd rfl neA
    | cons X0 A0 => exact ⟨X0, spreadGo_start h 400 0 _ _ List.mem_cons_self⟩
  have g0 := (hA X0).mp hX0
  have hall0 := good_hall hm nB g0
  refine ⟨fun hall => ⟨fun e => ?_, holds_of hm nE (by omega) b (nodup_addAll _ _ List.nodup_nil) sound fun Y g => ?_⟩, fun nh => ?_⟩
  · obtain ⟨X, gX, bX⟩ := lower hm nB hb (fun u h1 h2 => by
      have := hall u (by rw [ef]; exact h1) h2
      refine Nat.le_trans this (List.countP_mono_left fun x _ q => ?_)
      have q := of_decide_eq_true q
      rw [mm] at q
      exact decide_eq_true (by omega)) 3 X0 g0 (fun z => by
      rw [low_none (menu_le h hm) (by omega)] at z
      cases z)
    obtain ⟨Y, r, Z, hZ⟩ := k_dig hm gX.fit (gX.bs.nodup_iff.mpr nB) (gX.bs.mem_iff.mpr hb) (by rw [gX.bs.length_eq]; exact bX)
    have : Z ∈ after h (spread h A) (false, b) := mem_after.mpr ⟨Y, (hA Y).mpr (good_reach hm b gX r), hZ⟩
    rw [e] at this
    cases this
  · have lY : Y.flatten.length = B.length - 1 := by rw [g.bs.length_eq, lE]
    obtain ⟨⟨W, hW⟩, q⟩ := k_in hm g.fit b (by rw [lY]; omega)
    obtain ⟨pW, fW, lW⟩ := q W hW
    have pW2 : W.flatten.Perm B := (pW.trans (g.bs.append_right [b])).trans ((List.perm_append_singleton b _).trans (List.perm_cons_erase hb).symm)
    have eY : h.sum - Y.flatten.length = h.sum - B.length + 1 := by rw [lY]; omega
    have lW2 : ∀ u, h.sum - B.length + 1 ≤ u → u < 3 → low h u W = low h u Y := fun u h1 h2 => lW u (by rw [eY]; exact h1) h2
    obtain ⟨Z, gZ, eZ⟩ := fill hm nB hall0 _ W fW pW2 (fun u h1 h2 y hy => by
      rw [lW2 u h1 h2] at hy
      have := g.dp u (by rw [ef]; exact h1) h2 y hy
      rw [mm] at this
      omega) (Nat.le_refl _)
    have bY : b ∉ Y.flatten := fun z => (List.Nodup.mem_erase_iff nB).mp (g.bs.mem_iff.mp z) |>.1 rfl
    have bZ : b ∉ (low h (h.sum - B.length + 1) Z).flatten := fun z => by
      rw [eZ] at z
      rcases Nat.lt_or_ge (h.sum - B.length + 1) 3 with c | c
      · rw [lW2 _ (Nat.le_refl _) c] at z
        exact bY ((low_sub h _ Y).subset z)
      · rw [low_none (menu_le h hm) c] at z
        cases z
    obtain ⟨Z1, r, V, hV⟩ := k_dig hm gZ.fit (gZ.bs.nodup_iff.mpr nB) (gZ.bs.mem_iff.mpr hb) (by rw [gZ.bs.length_eq]; exact bZ)
    have gZ1 := good_reach hm b gZ r
    have hVA : V ∈ after h (spread h A) (false, b) := mem_after.mpr ⟨Z1, (hA Z1).mpr gZ1, hV⟩
    have gV := sound V hVA
    obtain ⟨_, _, lV, _⟩ := k_out hm gZ1.fit (gZ1.bs.nodup_iff.mpr nB) hV
    refine ⟨V, hVA, conn hm nE b gV.fit gV.bs g.fit g.bs fun c => ?_⟩
    rw [ef] at c ⊢
    rw [lV _ (by rw [gZ1.bs.length_eq]; exact Nat.le_refl _) c, (k_reach hm gZ.fit b r).2.2 _ (by rw [gZ.bs.length_eq]; omega) c, eZ, lW2 _ (Nat.le_refl _) c]
  · cases e : after h (spread h A) (false, b) with
    | nil => rfl
    | cons Z zs => exact absurd (good_hall hm nE (sound Z (by rw [e]; exact List.mem_cons_self))) nh

/-! ### all events -/
theorem tried_bad {h : List Nat} (hm : h ∈ menu) : ∀ (es : List (Bool × α)) (B : List α) (mk : α → Nat) (A : List (Sd α)) (k : Nat), Valid 5 B es → B.Nodup → B.length ≤ 5 → (∀ x ∈ B, h.sum - B.length ≤ mk x) → A.Nodup → A ≠ [] → Holds h B mk A →
    triedGo h A k es = firstBad h B mk k es
  | [], _, _, _, _, _, _, _, _, _, _, _ => rfl
  | (true, b) :: es, B, mk, A, k, v, nB, lB, mB, nA, neA, hA => by
    obtain ⟨v1, v2⟩ := v
    obtain ⟨hb, l5⟩ : b ∉ B ∧ B.length < 5 := v1
    have h5 := menu_sum h hm
    obtain ⟨ne, hA2, hall⟩ := step_in hm nB l5 hb mB nA neA hA
    have hall : Hall h (stB B (true, b)) (stM (h.sum - B.length) mk (true, b)) := hall
    have nB2 : (B ++ [b]).Nodup := by
      rw [List.nodup_append]
      refine ⟨nB, List.nodup_cons.mpr ⟨List.not_mem_nil, List.nodup_nil⟩, fun x hx y hy => ?_⟩
      rw [List.mem_singleton.mp hy]
      rintro rfl
      exact hb hx
    have len2 : (B ++ [b]).length = B.length + 1 := by rw [List.length_append]; rfl
    unfold triedGo firstBad
    rw [if_pos (hallB_iff.mpr hall)]
    cases e : after h (spread h A) (true, b) with
    | nil => exact absurd e ne
    | cons s ss =>
      rw [e] at hA2
      have nA2 : (s :: ss).Nodup := by
        rw [← e]
        exact nodup_addAll _ _ List.nodup_nil
      refine tried_bad hm es (B ++ [b]) _ (s :: ss) (k + 1) v2 nB2 (by omega) (fun x hx => ?_) nA2 (List.cons_ne_nil _ _) hA2
      rw [len2]
      rcases List.mem_append.mp hx with z | z
      · have : stM (h.sum - B.length) mk (true, b) x = mk x := if_neg fun e => hb (show b ∈ B from (show x = b from e) ▸ z)
        rw [this]
        have := mB x z
        omega
      · rw [List.mem_singleton.mp z]
        have : stM (h.sum - B.length) mk (true, b) b = h.sum - B.length := if_pos rfl
        rw [this]
        omega
  | (false, b) :: es, B, mk, A, k, v, nB, lB, mB, nA, neA, hA => by
    obtain ⟨v1, v2⟩ := v
    have hb : b ∈ B := v1
    have h5 := menu_sum h hm
    obtain ⟨yes, no⟩ := step_out hm nB lB hb nA neA hA
    have lE : (B.erase b).length = B.length - 1 := List.length_erase_of_mem hb
    have l0 : 0 < B.length := List.length_pos_of_mem hb
    unfold triedGo firstBad
    by_cases hall : Hall h (B.erase b) (stM (h.sum - B.length) mk (false, b))
    · obtain ⟨ne, hA2⟩ := yes hall
      have hq : hallB h (stB B (false, b)) (stM (h.sum - B.length) mk (false, b)) = true := hallB_iff.mpr hall
      rw [if_pos hq]
      cases e : after h (spread h A) (false, b) with
      | nil => exact absurd e ne
      | cons s ss =>
        rw [e] at hA2
        have nA2 : (s :: ss).Nodup := by
          rw [← e]
          exact nodup_addAll _ _ List.nodup_nil
        refine tried_bad hm es (B.erase b) _ (s :: ss) (k + 1) v2 (nB.erase b) (by omega) (fun x _ => ?_) nA2 (List.cons_ne_nil _ _) hA2
        have : stM (h.sum - B.length) mk (false, b) x = max (mk x) (h.sum - B.length + 1) := rfl
        rw [this, lE]
        omega
    · have hq : ¬ hallB h (stB B (false, b)) (stM (h.sum - B.length) mk (false, b)) = true := fun z => hall (hallB_iff.mp z)
      rw [if_neg hq, no hall]
/-- from the empty yard -/
theorem tried_eq {h : List Nat} (hm : h ∈ menu) (d : α) (es : List (Bool × α)) (v : Valid 5 [] es) (mk : α → Nat) : triedGo h [h.map fun _ => []] 0 es = firstBad h [] mk 0 es := by
  have hf : ∀ (h : List Nat), fits h (h.map fun _ => ([] : List α)) = true ∧ (h.map fun _ => ([] : List α)).flatten = [] := by
    intro h
    induction h with
    | nil => exact ⟨rfl, rfl⟩
    | cons n h ih =>
      obtain ⟨i1, i2⟩ := ih
      refine ⟨?_, i2⟩
      unfold fits at i1 ⊢
      obtain ⟨a, b⟩ := Bool.and_eq_true_iff.mp i1
      rw [decide_eq_true (by rw [List.length_map] : (List.map (fun _ => ([] : List α)) (n :: h)).length = (n :: h).length), Bool.true_and]
      exact Bool.and_eq_true_iff.mpr ⟨decide_eq_true (Nat.zero_le n), b⟩
  have h5 := menu_sum h hm
  refine tried_bad hm es [] mk _ 0 v List.nodup_nil (Nat.zero_le _) (fun x hx => nomatch hx) (List.nodup_cons.mpr ⟨List.not_mem_nil, List.nodup_nil⟩) (List.cons_ne_nil _ _) ?_
  refine holds_of hm List.nodup_nil (Nat.zero_le _) d (List.nodup_cons.mpr ⟨List.not_mem_nil, List.nodup_nil⟩) (fun Z hZ => ?_) fun Y g => ?_
  · rw [List.mem_singleton.mp hZ]
    refine ⟨(hf h).1, by rw [(hf h).2], fun u h1 h2 _ _ => ?_⟩
    have h1 : h.sum - 0 ≤ u := h1
    omega
  · refine ⟨_, List.mem_cons_self, conn hm List.nodup_nil d (hf h).1 (by rw [(hf h).2]) g.fit g.bs fun c => ?_⟩
    have c : h.sum - 0 < 3 := c
    omega
end
end K19M
end

section
set_option autoImplicit false
set_option linter.all false
set_option maxRecDepth 100000
/-! M7: the numbers of free places, the stretches, the book of presences. -/
namespace K19M
section
variable {α : Type} [DecidableEq α]

/-! ### free places -/
def cnts : Nat → List (Bool × α) → List Nat
  | f, [] => [f]
  | f, e :: es => f :: cnts (if e.1 then f - 1 else f + 1) es
theorem cnts_len : ∀ (es : List (Bool × α)) (f : Nat), (cnts f es).length = es.length + 1
  | [], _ => rfl
  | e :: es, f => by
    show (cnts _ es).length + 1 = es.length + 1 + 1
    rw [cnts_len es]
theorem cnts_app : ∀ (es : List (Bool × α)) (e : Bool × α) (f : Nat), ∃ l, (cnts f es)[es.length]? = some l ∧ cnts f (es ++ [e]) = cnts f es ++ [if e.1 then l - 1 else l + 1]
  | [], e, f => ⟨f, rfl, rfl⟩
  | x :: es, e, f => by
    obtain ⟨l, h1, h2⟩ := cnts_app es e (if x.1 then f - 1 else f + 1)
    refine ⟨l, h1, ?_⟩
    show f :: cnts _ (es ++ [e]) = f :: (cnts _ es ++ [_])
    rw [h2]

/-! ### stretches -/
def rowsGo (u : Nat) : List Nat → Nat → Option Nat → List (Nat × Nat)
  | [], _, none => []
  | [], s, some a => [(a, s - 1)]
  | c :: cs, s, none => if c ≤ u then rowsGo u cs (s + 1) (some s) else rowsGo u cs (s + 1) none
  | c :: cs, s, some a => if c ≤ u then rowsGo u cs (s + 1) (some a) else (a, s - 1) :: rowsGo u cs (s + 1) none
def rows (u : Nat) (cs : List Nat) : List (Nat × Nat) := rowsGo u cs 0 none
structure IsRow (u : Nat) (L : List Nat) (a b : Nat) : Prop where
  ab : a ≤ b
  bl : b < L.length
  le : ∀ i c, a ≤ i → i ≤ b → L[i]? = some c → c ≤ u
  lo : a = 0 ∨ ∃ c, L[a - 1]? = some c ∧ u < c
  hi : b + 1 = L.length ∨ ∃ c, L[b + 1]? = some c ∧ u < c
/-- the open row ahead of place s -/
def Open (u : Nat) (L : List Nat) (s : Nat) : Option Nat → Prop
  | none => s = 0 ∨ ∃ c, L[s - 1]? = some c ∧ u < c
  | some a => a < s ∧ (∀ i c, a ≤ i → i < s → L[i]? = some c → c ≤ u) ∧ (a = 0 ∨ ∃ c, L[a - 1]? = some c ∧ u < c)
theorem rowsGo_sound (u : Nat) (L : List Nat) : ∀ (cs : List Nat) (s : Nat) (o : Option Nat), L.drop s = cs → s ≤ L.length → Open u L s o → ∀ a b, (a, b) ∈ rowsGo u cs s o → IsRow u L a b
  | [], s, none, _, _, _, a, b, q => by cases q
  | [], s, some a0, e, hs, ⟨o1, o2, o3⟩, a, b, q => by
    have q : (a, b) ∈ [(a0, s - 1)] := q
    obtain ⟨rfl, rfl⟩ := Prod.mk.inj (List.mem_singleton.mp q)
    have hl : L.length ≤ s := List.drop_eq_nil_iff.mp e
    exact ⟨by omega, by omega, fun i c h1 h2 h3 => o2 i c h1 (by omega) h3, o3, .inl (by omega)⟩
  | c :: cs, s, none, e, hs, o, a, b, q => by
    have hc : L[s]? = some c := by
      have := congrArg (fun l => l[0]?) e
      simpa [List.getElem?_drop] using this
    have hsl : s < L.length := (List.getElem?_eq_some_iff.mp hc).1
    have e2 : L.drop (s + 1) = cs := by
      have := congrArg (List.drop 1) e
      simpa [List.drop_drop, Nat.add_comm] using this
    unfold rowsGo at q
    by_cases z : c ≤ u
    · rw [if_pos z] at q
      refine rowsGo_sound u L cs (s + 1) (some s) e2 hsl ⟨Nat.lt_succ_self s, fun i c' h1 h2 h3 => ?_, o⟩ a b q
      have : i = s := by omega
      subst this
      rw [hc] at h3
      cases h3
      exact z
    · rw [if_neg z] at q
      exact rowsGo_sound u L cs (s + 1) none e2 hsl (.inr ⟨c, hc, by omega⟩) a b q
  | c :: cs, s, some a0, e, hs, ⟨o1, o2, o3⟩, a, b, q => by
    have hc : L[s]? = some c := by
      have := congrArg (fun l => l[0]?) e
      simpa [List.getElem?_drop] using this
    have hsl : s < L.length := (List.getElem?_eq_some_iff.mp hc).1
    have e2 : L.drop (s + 1) = cs := by
      have := congrArg (List.drop 1) e
      simpa [List.drop_drop, Nat.add_comm] using this
    unfold rowsGo at q
    by_cases z : c ≤ u
    · rw [if_pos z] at q
      refine rowsGo_sound u L cs (s + 1) (some a0) e2 hsl ⟨by omega, fun i c' h1 h2 h3 => ?_, o3⟩ a b q
      rcases Nat.lt_or_ge i s with w | w
      · exact o2 i c' h1 w h3
      · have : i = s := by omega
        subst this
        rw [hc] at h3
        cases h3
        exact z
    · rw [if_neg z] at q
      rcases List.mem_cons.mp q with w | w
      · obtain ⟨rfl, rfl⟩ := Prod.mk.inj w
        refine ⟨by omega, by omega, fun i c' h1 h2 h3 => o2 i c' h1 (by omega) h3, o3, .inr ⟨c, ?_, by omega⟩⟩
        rw [show s - 1 + 1 = s by omega]
        exact hc
      · exact rowsGo_sound u L cs (s + 1) none e2 hsl (.inr ⟨c, hc, by omega⟩) a b w
theorem rowsGo_all (u : Nat) (L : List Nat) : ∀ (cs : List Nat) (s : Nat) (o : Option Nat), L.drop s = cs → s ≤ L.length → Open u L s o → ∀ t c, L[t]? = some c → c ≤ u → (s ≤ t ∨ ∃ a, o = some a ∧ a ≤ t) → ∃ a b, (a, b) ∈ rowsGo u cs s o ∧ a ≤ t ∧ t ≤ b
  | [], s, none, e, hs, o, t, c, h1, h2, h3 => by
    have hl : L.length ≤ s := List.drop_eq_nil_iff.mp e
    have := (List.getElem?_eq_some_iff.mp h1).1
    rcases h3 with z | ⟨a, z, _⟩
    · omega
    · cases z
  | [], s, some a0, e, hs, ⟨o1, o2, o3⟩, t, c, h1, h2, h3 => by
    have hl : L.length ≤ s := List.drop_eq_nil_iff.mp e
    have := (List.getElem?_eq_some_iff.mp h1).1
    refine ⟨a0, s - 1, List.mem_cons_self, ?_, by omega⟩
    rcases h3 with z | ⟨a, z, w⟩
    · omega
    · cases z
      exact w
  | c0 :: cs, s, none, e, hs, o, t, c, h1, h2, h3 => by
    have hc : L[s]? = some c0 := by
      have := congrArg (fun l => l[0]?) e
      simpa [List.getElem?_drop] using this
    have hsl : s < L.length := (List.getElem?_eq_some_iff.mp hc).1
    have e2 : L.drop (s + 1) = cs := by
      have := congrArg (List.drop 1) e
      simpa [List.drop_drop, Nat.add_comm] using this
    have hst : s ≤ t := by
      rcases h3 with z | ⟨a, z, _⟩
      · exact z
      · cases z
    unfold rowsGo
    by_cases z : c0 ≤ u
    · rw [if_pos z]
      refine rowsGo_all u L cs (s + 1) (some s) e2 hsl ⟨Nat.lt_succ_self s, fun i c' q1 q2 q3 => ?_, o⟩ t c h1 h2 (.inr ⟨s, rfl, hst⟩)
      have : i = s := by omega
      subst this
      rw [hc] at q3
      cases q3
      exact z
    · rw [if_neg z]
      refine rowsGo_all u L cs (s + 1) none e2 hsl (.inr ⟨c0, hc, by omega⟩) t c h1 h2 (.inl ?_)
      rcases Nat.lt_or_ge s t with w | w
      · exact w
      · have : s = t := by omega
        subst this
        rw [hc] at h1
        cases h1
        exact absurd h2 z
  | c0 :: cs, s, some a0, e, hs, ⟨o1, o2, o3⟩, t, c, h1, h2, h3 => by
    have hc : L[s]? = some c0 := by
      have := congrArg (fun l => l[0]?) e
      simpa [List.getElem?_drop] using this
    have hsl : s < L.length := (List.getElem?_eq_some_iff.mp hc).1
    have e2 : L.drop (s + 1) = cs := by
      have := congrArg (List.drop 1) e
      simpa [List.drop_drop, Nat.add_comm] using this
    have hat : a0 ≤ t := by
      rcases h3 with z | ⟨a, z, w⟩
      · omega
      · cases z
        exact w
    unfold rowsGo
    by_cases z : c0 ≤ u
    · rw [if_pos z]
      refine rowsGo_all u L cs (s + 1) (some a0) e2 hsl ⟨by omega, fun i c' q1 q2 q3 => ?_, o3⟩ t c h1 h2 (.inr ⟨a0, rfl, hat⟩)
      rcases Nat.lt_or_ge i s with w | w
      · exact o2 i c' q1 w q3
      · have : i = s := by omega
        subst this
        rw [hc] at q3
        cases q3
        exact z
    · rw [if_neg z]
      rcases Nat.lt_or_ge t s with w | w
      · exact ⟨a0, s - 1, List.mem_cons_self, hat, by omega⟩
      · obtain ⟨a, b, q, r⟩ := rowsGo_all u L cs (s + 1) none e2 hsl (.inr ⟨c0, hc, by omega⟩) t c h1 h2 (.inl (by
          rcases Nat.lt_or_ge s t with w2 | w2
          · exact w2
          · have : s = t := by omega
            subst this
            rw [hc] at h1
            cases h1
            exact absurd h2 z))
        exact ⟨a, b, List.mem_cons_of_mem _ q, r⟩
theorem rows_sound {u : Nat} {L : List Nat} {a b : Nat} (q : (a, b) ∈ rows u L) : IsRow u L a b := rowsGo_sound u L L 0 none rfl (Nat.zero_le _) (.inl rfl) a b q
theorem rows_all {u : Nat} {L : List Nat} {t c : Nat} (h1 : L[t]? = some c) (h2 : c ≤ u) : ∃ a b, (a, b) ∈ rows u L ∧ a ≤ t ∧ t ≤ b := rowsGo_all u L L 0 none rfl (Nat.zero_le _) (.inl rfl) t c h1 h2 (.inl (Nat.zero_le t))

/-! ### the book -/
section
variable {β : Type}
def aget (kvs : List (α × β)) (k : α) : Option β := (kvs.find? fun kv => decide (kv.1 = k)).map (·.2)
def aput (kvs : List (α × β)) (k : α) (v : β) : List (α × β) := if (kvs.any fun kv => decide (kv.1 = k)) = true then kvs.map fun kv => if kv.1 = k then (kv.1, v) else kv else kvs ++ [(k, v)]
theorem any_key {kvs : List (α × β)} {k : α} : (kvs.any fun kv => decide (kv.1 = k)) = true ↔ k ∈ kvs.map (·.1) := by
  rw [List.any_eq_true, List.mem_map]
  constructor
  · rintro ⟨x, hx, e⟩
    exact ⟨x, hx, of_decide_eq_true e⟩
  · rintro ⟨x, hx, e⟩
    exact ⟨x, hx, decide_eq_true e⟩
theorem aput_new {kvs : List (α × β)} {k : α} (v : β) (q : k ∉ kvs.map (·.1)) : aput kvs k v = kvs ++ [(k, v)] := if_neg fun z => q (any_key.mp z)
theorem aput_old {kvs : List (α × β)} {k : α} (v : β) (q : k ∈ kvs.map (·.1)) : aput kvs k v = kvs.map fun kv => if kv.1 = k then (kv.1, v) else kv := if_pos (any_key.mpr q)
theorem aget_of : ∀ {kvs : List (α × β)} {k : α} {v : β}, (kvs.map (·.1)).Nodup → (k, v) ∈ kvs → aget kvs k = some v
  | (k0, v0) :: kvs, k, v, nd, q => by
    obtain ⟨n1, n2⟩ := List.nodup_cons.mp (show (k0 :: kvs.map (·.1)).Nodup from nd)
    unfold aget
    rw [List.find?_cons]
    rcases List.mem_cons.mp q with z | z
    · cases z
      rw [decide_eq_true rfl]
      rfl
    · have : k0 ≠ k := fun e => n1 (e ▸ List.mem_map.mpr ⟨_, z, rfl⟩)
      rw [decide_eq_false (show ¬ (k0, v0).1 = k from this)]
      exact aget_of n2 z
theorem aget_none {kvs : List (α × β)} {k : α} (q : k ∉ kvs.map (·.1)) : aget kvs k = none := by
  unfold aget
  rw [List.find?_eq_none.mpr fun x hx => by
    have : x.1 ≠ k := fun e => q (List.mem_map.mpr ⟨x, hx, e⟩)
    simpa using this]
  rfl
theorem aget_mem {kvs : List (α × β)} {k : α} {v : β} (q : aget kvs k = some v) : (k, v) ∈ kvs := by
  unfold aget at q
  obtain ⟨x, hx, e⟩ := Option.map_eq_some_iff.mp q
  have h1 := List.mem_of_find?_eq_some hx
  have h2 : x.1 = k := by
    have h3 := List.find?_some hx
    exact of_decide_eq_true h3
  rw [← e, ← h2]
  exact h1
end
/-- first and last state of each box, at place `at_` of T events -/
def tabStep (T at_ : Nat) (tab : List (α × Nat × Nat)) (e : Bool × α) : List (α × Nat × Nat) :=
  if e.1 then aput tab e.2 (at_ + 1, T) else aput tab e.2 (((aget tab e.2).getD (0, 0)).1, at_)
def tabGo (T : Nat) : Nat → List (α × Nat × Nat) → List (Bool × α) → List (α × Nat × Nat)
  | _, tab, [] => tab
  | at_, tab, e :: es => tabGo T (at_ + 1) (tabStep T at_ tab e) es
def tabOf (es : List (Bool × α)) : List (α × Nat × Nat) := tabGo es.length 0 [] es
theorem tabGo_app (T : Nat) : ∀ (es : List (Bool × α)) (at_ : Nat) (tab : List (α × Nat × Nat)) (e : Bool × α), tabGo T at_ tab (es ++ [e]) = tabStep T (at_ + es.length) (tabGo T at_ tab es) e
  | [], at_, tab, e => rfl
  | x :: es, at_, tab, e => by
    show tabGo T (at_ + 1) (tabStep T at_ tab x) (es ++ [e]) = tabStep T (at_ + (es.length + 1)) (tabGo T (at_ + 1) (tabStep T at_ tab x) es) e
    rw [tabGo_app T es, show at_ + 1 + es.length = at_ + (es.length + 1) by omega]
end
end K19M
end

section
set_option autoImplicit false
set_option linter.all false
set_option maxRecDepth 100000
/-! M8: the states of a timetable: who is there, since when, with which mark. -/
namespace K19M
section
variable {α : Type} [DecidableEq α]

/-- a timetable for P places: C came so far, B are there -/
def TT (P : Nat) : List α → List α → List (Bool × α) → Prop
  | _, _, [] => True
  | C, B, e :: es => (if e.1 = true then e.2 ∉ C ∧ B.length < P else e.2 ∈ B) ∧ TT P (if e.1 = true then C ++ [e.2] else C) (stB B e) es
theorem TT.valid {P : Nat} : ∀ {es : List (Bool × α)} {C B : List α}, (∀ x ∈ B, x ∈ C) → TT P C B es → Valid P B es
  | [], _, _, _, _ => trivial
  | (true, b) :: es, C, B, hs, ⟨⟨a1, a2⟩, a3⟩ => by
    refine ⟨⟨fun z => a1 (hs b z), a2⟩, TT.valid (fun x hx => ?_) a3⟩
    rcases List.mem_append.mp hx with z | z
    · exact List.mem_append_left _ (hs x z)
    · exact List.mem_append_right _ z
  | (false, b) :: es, C, B, hs, ⟨a1, a3⟩ => ⟨a1, TT.valid (fun x hx => hs x (List.mem_of_mem_erase hx)) a3⟩
theorem TT.app {P : Nat} : ∀ {es fs : List (Bool × α)} {C B : List α}, TT P C B (es ++ fs) → TT P C B es ∧ ∃ C', TT P C' (es.foldl stB B) fs
  | [], fs, C, B, h => ⟨trivial, C, h⟩
  | e :: es, fs, C, B, ⟨h1, h2⟩ => by
    obtain ⟨a, b⟩ := TT.app h2
    exact ⟨⟨h1, a⟩, b⟩

/-- who is there, the marks -/
def stAt (P : Nat) (mk0 : α → Nat) (es : List (Bool × α)) : List α × (α → Nat) := es.foldl (fun s e => (stB s.1 e, stM (P - s.1.length) s.2 e)) ([], mk0)
theorem stAt_app (P : Nat) (mk0 : α → Nat) (es : List (Bool × α)) (e : Bool × α) : stAt P mk0 (es ++ [e]) = (stB (stAt P mk0 es).1 e, stM (P - (stAt P mk0 es).1.length) (stAt P mk0 es).2 e) := by
  unfold stAt
  rw [List.foldl_append]
  rfl
theorem firstBad_none {h : List Nat} {mk0 : α → Nat} : ∀ (es pre : List (Bool × α)), firstBad h (stAt h.sum mk0 pre).1 (stAt h.sum mk0 pre).2 pre.length es = none →
    ∀ s, 1 ≤ s → s ≤ es.length → Hall h (stAt h.sum mk0 (pre ++ es.take s)).1 (stAt h.sum mk0 (pre ++ es.take s)).2
  | [], pre, _, s, h1, h2 => by
    have h2 : s ≤ 0 := h2
    omega
  | e :: es, pre, q, s, h1, h2 => by
    unfold firstBad at q
    by_cases z : hallB h (stB (stAt h.sum mk0 pre).1 e) (stM (h.sum - (stAt h.sum mk0 pre).1.length) (stAt h.sum mk0 pre).2 e) = true
    · rw [if_pos z] at q
      have ea := stAt_app h.sum mk0 pre e
      have q2 : firstBad h (stAt h.sum mk0 (pre ++ [e])).1 (stAt h.sum mk0 (pre ++ [e])).2 (pre ++ [e]).length es = none := by
        rw [ea, List.length_append]
        exact q
      have z2 := hallB_iff.mp z
      cases s with
      | zero => omega
      | succ s =>
        cases s with
        | zero =>
          show Hall h (stAt h.sum mk0 (pre ++ [e])).1 (stAt h.sum mk0 (pre ++ [e])).2
          rw [ea]
          exact z2
        | succ s =>
          have ih := firstBad_none es (pre ++ [e]) q2 (s + 1) (by omega) (by
            have : s + 1 + 1 ≤ es.length + 1 := h2
            omega)
          rw [List.append_assoc] at ih
          exact ih
    · rw [if_neg z] at q
      cases q
theorem firstBad_some {h : List Nat} {mk0 : α → Nat} : ∀ (es pre : List (Bool × α)) (k : Nat), firstBad h (stAt h.sum mk0 pre).1 (stAt h.sum mk0 pre).2 pre.length es = some k →
    ∃ j, k = pre.length + j ∧ j < es.length ∧ ¬ Hall h (stAt h.sum mk0 (pre ++ es.take (j + 1))).1 (stAt h.sum mk0 (pre ++ es.take (j + 1))).2 ∧
      ∀ s, 1 ≤ s → s ≤ j → Hall h (stAt h.sum mk0 (pre ++ es.take s)).1 (stAt h.sum mk0 (pre ++ es.take s)).2
  | [], pre, k, q => by cases q
  | e :: es, pre, k, q => by
    unfold firstBad at q
    have ea := stAt_app h.sum mk0 pre e
    by_cases z : hallB h (stB (stAt h.sum mk0 pre).1 e) (stM (h.sum - (stAt h.sum mk0 pre).1.length) (stAt h.sum mk0 pre).2 e) = true
    · rw [if_pos z] at q
      have q2 : firstBad h (stAt h.sum mk0 (pre ++ [e])).1 (stAt h.sum mk0 (pre ++ [e])).2 (pre ++ [e]).length es = some k := by
        rw [ea, List.length_append]
        exact q
      obtain ⟨j, e1, e2, e3, e4⟩ := firstBad_some es (pre ++ [e]) k q2
      have z2 := hallB_iff.mp z
      refine ⟨j + 1, by rw [e1, List.length_append, List.length_singleton]; omega, Nat.succ_lt_succ e2, ?_, fun s h1 h2 => ?_⟩
      · rw [List.append_assoc] at e3
        exact e3
      · cases s with
        | zero => omega
        | succ s =>
          cases s with
          | zero =>
            show Hall h (stAt h.sum mk0 (pre ++ [e])).1 (stAt h.sum mk0 (pre ++ [e])).2
            rw [ea]
            exact z2
          | succ s =>
            have := e4 (s + 1) (by omega) (by omega)
            rw [List.append_assoc] at this
            exact this
    · rw [if_neg z] at q
      cases q
      refine ⟨0, rfl, Nat.succ_pos _, fun w => z (hallB_iff.mpr ?_), fun s h1 h2 => by omega⟩
      have w : Hall h (stAt h.sum mk0 (pre ++ [e])).1 (stAt h.sum mk0 (pre ++ [e])).2 := w
      rw [ea] at w
      exact w

/-! ### the book's entries, when s events of evs are done -/
structure Book (evs : List (Bool × α)) (B : List α) (s : Nat) (tab : List (α × Nat × Nat)) : Prop where
  nd : (tab.map (·.1)).Nodup
  nB : B.Nodup
  came : ∀ x c l, (x, c, l) ∈ tab → 1 ≤ c ∧ c ≤ s ∧ evs[c - 1]? = some (true, x)
  stay : ∀ x c l, (x, c, l) ∈ tab → (l = evs.length ∧ x ∈ B) ∨ (l < s ∧ c ≤ l ∧ evs[l]? = some (false, x) ∧ x ∉ B)
  outs : ∀ x c l, (x, c, l) ∈ tab → ∀ j, j < l → j < s → evs[j]? ≠ some (false, x)
  all : ∀ i x, i < s → evs[i]? = some (true, x) → ∃ l, (x, i + 1, l) ∈ tab
  here : ∀ x ∈ B, ∃ c, (x, c, evs.length) ∈ tab
  gone : ∀ j x, j < s → evs[j]? = some (false, x) → x ∈ tab.map (·.1)
theorem tab_uniq {evs : List (Bool × α)} {B : List α} {s : Nat} {tab : List (α × Nat × Nat)} (b : Book evs B s tab) {x : α} {p q : Nat × Nat} (h1 : (x, p) ∈ tab) (h2 : (x, q) ∈ tab) : p = q :=
  Option.some.inj ((aget_of b.nd h1).symm.trans (aget_of b.nd h2))
theorem book_in {evs : List (Bool × α)} {B : List α} {s : Nat} {tab : List (α × Nat × Nat)} (b : Book evs B s tab) {x : α} (he : evs[s]? = some (true, x)) (hs : s < evs.length) (hx : x ∉ tab.map (·.1)) :
    Book evs (B ++ [x]) (s + 1) (tabStep evs.length s tab (true, x)) := by
  have e : tabStep evs.length s tab (true, x) = tab ++ [(x, s + 1, evs.length)] := aput_new _ hx
  have xB : x ∉ B := fun z => by
    obtain ⟨c, hc⟩ := b.here x z
    exact hx (List.mem_map.mpr ⟨_, hc, rfl⟩)
  have sp : ∀ {y c l}, (y, c, l) ∈ tab ++ [(x, s + 1, evs.length)] → ((y, c, l) ∈ tab ∧ y ≠ x) ∨ (y = x ∧ c = s + 1 ∧ l = evs.length) := fun {y c l} q => by
    rcases List.mem_append.mp q with z | z
    · exact .inl ⟨z, fun e => hx (e ▸ List.mem_map.mpr ⟨_, z, rfl⟩)⟩
    · have := List.mem_singleton.mp z
      exact .inr ⟨(Prod.mk.inj this).1, (Prod.mk.inj (Prod.mk.inj this).2).1, (Prod.mk.inj (Prod.mk.inj this).2).2⟩
  rw [e]
  refine ⟨?_, ?_, fun y c l q => ?_, fun y c l q => ?_, fun y c l q j h1 h2 => ?_, fun i y h1 h2 => ?_, fun y hy => ?_, fun j y h1 h2 => ?_⟩
  · rw [List.map_append, List.nodup_append]
    refine ⟨b.nd, List.nodup_cons.mpr ⟨List.not_mem_nil, List.nodup_nil⟩, fun z hz w hw => ?_⟩
    rw [List.mem_singleton.mp hw]
    rintro rfl
    exact hx hz
  · rw [List.nodup_append]
    refine ⟨b.nB, List.nodup_cons.mpr ⟨List.not_mem_nil, List.nodup_nil⟩, fun z hz w hw => ?_⟩
    rw [List.mem_singleton.mp hw]
    rintro rfl
    exact xB hz
  · rcases sp q with ⟨z, _⟩ | ⟨rfl, rfl, rfl⟩
    · obtain ⟨a1, a2, a3⟩ := b.came y c l z
      exact ⟨a1, by omega, a3⟩
    · exact ⟨by omega, Nat.le_refl _, he⟩
  · rcases sp q with ⟨z, hne⟩ | ⟨rfl, rfl, rfl⟩
    · rcases b.stay y c l z with ⟨a1, a2⟩ | ⟨a1, a2, a3, a4⟩
      · exact .inl ⟨a1, List.mem_append_left _ a2⟩
      · refine .inr ⟨by omega, a2, a3, fun w => ?_⟩
        rcases List.mem_append.mp w with v | v
        · exact a4 v
        · exact hne (List.mem_singleton.mp v)
    · exact .inl ⟨rfl, List.mem_append_right _ List.mem_cons_self⟩
  · rcases sp q with ⟨z, _⟩ | ⟨rfl, rfl, rfl⟩
    · rcases Nat.lt_or_ge j s with w | w
      · exact b.outs y c l z j h1 w
      · have : j = s := by omega
        subst this
        rw [he]
        exact fun e => nomatch (Option.some.inj e)
    · rcases Nat.lt_or_ge j s with w | w
      · intro e
        exact hx (b.gone j y w e)
      · have : j = s := by omega
        subst this
        rw [he]
        exact fun e => nomatch (Option.some.inj e)
  · rcases Nat.lt_or_ge i s with w | w
    · obtain ⟨l, hl⟩ := b.all i y w h2
      exact ⟨l, List.mem_append_left _ hl⟩
    · have : i = s := by omega
      subst this
      rw [he] at h2
      cases h2
      exact ⟨evs.length, List.mem_append_right _ List.mem_cons_self⟩
  · rcases List.mem_append.mp hy with z | z
    · obtain ⟨c, hc⟩ := b.here y z
      exact ⟨c, List.mem_append_left _ hc⟩
    · rw [List.mem_singleton.mp z]
      exact ⟨s + 1, List.mem_append_right _ List.mem_cons_self⟩
  · rw [List.map_append]
    rcases Nat.lt_or_ge j s with w | w
    · exact List.mem_append_left _ (b.gone j y w h2)
    · have : j = s := by omega
      subst this
      rw [he] at h2
      cases h2
theorem book_out {evs : List (Bool × α)} {B : List α} {s : Nat} {tab : List (α × Nat × Nat)} (b : Book evs B s tab) {x : α} (he : evs[s]? = some (false, x)) (hs : s < evs.length) (hx : x ∈ B) :
    Book evs (B.erase x) (s + 1) (tabStep evs.length s tab (false, x)) := by
  obtain ⟨c0, hc0⟩ := b.here x hx
  have hk : x ∈ tab.map (·.1) := List.mem_map.mpr ⟨_, hc0, rfl⟩
  have eg : ((aget tab x).getD (0, 0)).1 = c0 := by rw [aget_of b.nd hc0]; rfl
  have e : tabStep evs.length s tab (false, x) = tab.map fun kv => if kv.1 = x then (kv.1, (c0, s)) else kv := by
    show aput tab x (((aget tab x).getD (0, 0)).1, s) = _
    rw [eg, aput_old _ hk]
  have hc := b.came x c0 _ hc0
  have km : (tab.map fun kv => if kv.1 = x then (kv.1, (c0, s)) else kv).map (·.1) = tab.map (·.1) := by
    rw [List.map_map]
    refine List.map_congr_left fun kv _ => ?_
    show (if kv.1 = x then (kv.1, (c0, s)) else kv).1 = kv.1
    split <;> rfl
  have sp : ∀ {y c l}, (y, c, l) ∈ (tab.map fun kv => if kv.1 = x then (kv.1, (c0, s)) else kv) → ((y, c, l) ∈ tab ∧ y ≠ x) ∨ (y = x ∧ c = c0 ∧ l = s) := fun {y c l} q => by
    obtain ⟨kv, hkv, e2⟩ := List.mem_map.mp q
    by_cases z : kv.1 = x
    · rw [if_pos z] at e2
      exact .inr ⟨(Prod.mk.inj e2).1.symm.trans z, (Prod.mk.inj (Prod.mk.inj e2).2).1.symm, (Prod.mk.inj (Prod.mk.inj e2).2).2.symm⟩
    · rw [if_neg z] at e2
      exact .inl ⟨e2 ▸ hkv, fun w => z (by rw [e2]; exact w)⟩
  have mk : ∀ {y c l}, (y, c, l) ∈ tab → y ≠ x → (y, c, l) ∈ (tab.map fun kv => if kv.1 = x then (kv.1, (c0, s)) else kv) := fun {y c l} q hne =>
    List.mem_map.mpr ⟨_, q, if_neg hne⟩
  have mx : (x, c0, s) ∈ (tab.map fun kv => if kv.1 = x then (kv.1, (c0, s)) else kv) := List.mem_map.mpr ⟨_, hc0, if_pos rfl⟩
  have nx : x ∉ B.erase x := fun z => (List.Nodup.mem_erase_iff b.nB).mp z |>.1 rfl
  rw [e]
  refine ⟨by rw [km]; exact b.nd, b.nB.erase x, fun y c l q => ?_, fun y c l q => ?_, fun y c l q j h1 h2 => ?_, fun i y h1 h2 => ?_, fun y hy => ?_, fun j y h1 h2 => ?_⟩
  · rcases sp q with ⟨z, _⟩ | ⟨rfl, rfl, rfl⟩
    · obtain ⟨a1, a2, a3⟩ := b.came y c l z
      exact ⟨a1, by omega, a3⟩
    · exact ⟨hc.1, by omega, hc.2.2⟩
  · rcases sp q with ⟨z, hne⟩ | ⟨rfl, rfl, rfl⟩
    · rcases b.stay y c l z with ⟨a1, a2⟩ | ⟨a1, a2, a3, a4⟩
      · exact .inl ⟨a1, (List.mem_erase_of_ne hne).mpr a2⟩
      · exact .inr ⟨by omega, a2, a3, fun w => a4 (List.mem_of_mem_erase w)⟩
    · exact .inr ⟨Nat.lt_succ_self _, hc.2.1, he, nx⟩
  · rcases sp q with ⟨z, hne⟩ | ⟨rfl, rfl, rfl⟩
    · rcases Nat.lt_or_ge j s with w | w
      · exact b.outs y c l z j h1 w
      · have : j = s := by omega
        subst this
        rw [he]
        intro e3
        cases e3
        exact hne rfl
    · exact b.outs y c _ hc0 j (by omega) h1
  · rcases Nat.lt_or_ge i s with w | w
    · obtain ⟨l, hl⟩ := b.all i y w h2
      by_cases z : y = x
      · subst z
        have := tab_uniq b hl hc0
        have : i + 1 = c0 := (Prod.mk.inj this).1
        exact ⟨s, by rw [this]; exact mx⟩
      · exact ⟨l, mk hl z⟩
    · have : i = s := by omega
      subst this
      rw [he] at h2
      cases h2
  · have hne : y ≠ x := fun z => nx (z ▸ hy)
    obtain ⟨c, hc⟩ := b.here y (List.mem_of_mem_erase hy)
    exact ⟨c, mk hc hne⟩
  · rw [km]
    rcases Nat.lt_or_ge j s with w | w
    · exact b.gone j y w h2
    · have : j = s := by omega
      subst this
      rw [he] at h2
      cases h2
      exact hk

/-- the book of the first s events; C: who came -/
theorem book_at {evs : List (Bool × α)} {P : Nat} (mk0 : α → Nat) : ∀ (es pre : List (Bool × α)) (C : List α) (tab : List (α × Nat × Nat)), evs = pre ++ es → TT P C (stAt P mk0 pre).1 es → (∀ x, x ∈ C ↔ x ∈ tab.map (·.1)) →
    Book evs (stAt P mk0 pre).1 pre.length tab → Book evs (stAt P mk0 evs).1 evs.length (tabGo evs.length pre.length tab es)
  | [], pre, C, tab, e, _, _, b => by
    rw [List.append_nil] at e
    subst e
    exact b
  | (true, x) :: es, pre, C, tab, e, ⟨⟨h1, h2⟩, h3⟩, hC, b => by
    have he : evs[pre.length]? = some (true, x) := by rw [e, List.getElem?_append_right (Nat.le_refl _), Nat.sub_self]; rfl
    have hl : pre.length < evs.length := by rw [e, List.length_append, List.length_cons]; omega
    have hx : x ∉ tab.map (·.1) := fun z => h1 ((hC x).mpr z)
    have b2 := book_in b he hl hx
    have ea := stAt_app P mk0 pre (true, x)
    have b3 := book_at (evs := evs) (P := P) mk0 es (pre ++ [(true, x)]) (C ++ [x]) (tabStep evs.length pre.length tab (true, x)) (by rw [e, List.append_assoc]; rfl) (by rw [ea]; exact h3) (fun y => by
      rw [show tabStep evs.length pre.length tab (true, x) = tab ++ [(x, pre.length + 1, evs.length)] from aput_new _ hx, List.map_append, List.mem_append, List.mem_append, hC y]
      rfl) (by rw [ea, List.length_append]; exact b2)
    rw [List.length_append] at b3
    exact b3
  | (false, x) :: es, pre, C, tab, e, ⟨h1, h3⟩, hC, b => by
    have he : evs[pre.length]? = some (false, x) := by rw [e, List.getElem?_append_right (Nat.le_refl _), Nat.sub_self]; rfl
    have hl : pre.length < evs.length := by rw [e, List.length_append, List.length_cons]; omega
    have h1 : x ∈ (stAt P mk0 pre).1 := h1
    have b2 := book_out b he hl h1
    have ea := stAt_app P mk0 pre (false, x)
    have hk : x ∈ tab.map (·.1) := by
      obtain ⟨c, hc⟩ := b.here x h1
      exact List.mem_map.mpr ⟨_, hc, rfl⟩
    have b3 := book_at (evs := evs) (P := P) mk0 es (pre ++ [(false, x)]) C (tabStep evs.length pre.length tab (false, x)) (by rw [e, List.append_assoc]; rfl) (by rw [ea]; exact h3) (fun y => by
      rw [hC y, show tabStep evs.length pre.length tab (false, x) = _ from aput_old _ hk, List.map_map]
      have : ((fun kv : α × Nat × Nat => kv.1) ∘ fun kv : α × Nat × Nat => if kv.1 = x then (kv.1, (((aget tab x).getD (0, 0)).1, pre.length)) else kv) = fun kv => kv.1 := by
        funext kv
        show (if kv.1 = x then (kv.1, (((aget tab x).getD (0, 0)).1, pre.length)) else kv).1 = kv.1
        split <;> rfl
      rw [show (fun kv : α × Nat × Nat => kv.1) ∘ (fun kv : α × Nat × Nat => if kv.1 = (false, x).2 then (kv.1, (((aget tab (false, x).2).getD (0, 0)).1, pre.length)) else kv) = fun kv => kv.1 from this]) (by rw [ea, List.length_append]; exact b2)
    rw [List.length_append] at b3
    exact b3
theorem book_of {evs : List (Bool × α)} {P : Nat} (mk0 : α → Nat) (v : TT P [] [] evs) : Book evs (stAt P mk0 evs).1 evs.length (tabOf evs) :=
  book_at mk0 evs [] [] [] rfl v (fun x => Iff.rfl) ⟨List.nodup_nil, List.nodup_nil, (fun _ _ _ q => nomatch q), (fun _ _ _ q => nomatch q), (fun _ _ _ q => nomatch q), (fun i x h _ => absurd h (Nat.not_lt_zero i)), (fun x q => nomatch q), (fun j x h _ => absurd h (Nat.not_lt_zero j))⟩
end
end K19M
end

section
set_option autoImplicit false
set_option linter.all false
set_option maxRecDepth 100000
/-! M9: tried = stuck. -/
namespace K19M
section
variable {α : Type} [DecidableEq α]

theorem stAt_fst (P : Nat) (mk0 : α → Nat) (es : List (Bool × α)) : (stAt P mk0 es).1 = es.foldl stB [] := by
  have key : ∀ (es : List (Bool × α)) (s : List α × (α → Nat)), (es.foldl (fun s e => (stB s.1 e, stM (P - s.1.length) s.2 e)) s).1 = es.foldl stB s.1 := by
    intro es
    induction es with
    | nil => exact fun _ => rfl
    | cons e es ih => exact fun s => ih _
  exact key es ([], mk0)
theorem take_ev {evs : List (Bool × α)} {s : Nat} {e : Bool × α} (h : evs[s]? = some e) : evs.take (s + 1) = evs.take s ++ [e] := by
  rw [List.take_add_one, h]
  rfl
theorem cnts_step : ∀ {evs : List (Bool × α)} {f s : Nat} {e : Bool × α} {v : Nat}, evs[s]? = some e → (cnts f evs)[s]? = some v → (cnts f evs)[s + 1]? = some (if e.1 then v - 1 else v + 1)
  | x :: evs, f, 0, e, v, h1, h2 => by
    have e1 : x = e := Option.some.inj h1
    have e2 : f = v := Option.some.inj h2
    subst e1
    subst e2
    show (cnts _ evs)[0]? = _
    cases evs <;> rfl
  | x :: evs, f, s + 1, e, v, h1, h2 => by
    have h1 : evs[s]? = some e := h1
    exact cnts_step (f := if x.1 then f - 1 else f + 1) h1 h2

variable {P : Nat} (mk0 : α → Nat) {evs : List (Bool × α)} (v : TT P [] [] evs)
include v
/-- an event fits where it stands -/
theorem ev_fits {s : Nat} {e : Bool × α} (h : evs[s]? = some e) : if e.1 = true then e.2 ∉ (stAt P mk0 (evs.take s)).1 ∧ (stAt P mk0 (evs.take s)).1.length < P else e.2 ∈ (stAt P mk0 (evs.take s)).1 := by
  have hl := (List.getElem?_eq_some_iff.mp h).1
  have es : evs = evs.take s ++ e :: evs.drop (s + 1) := by
    have := (List.getElem?_eq_some_iff.mp h).2
    rw [← this, List.getElem_cons_drop, List.take_append_drop]
  have key : ∀ (es fs : List (Bool × α)) (C B : List α), (∀ x ∈ B, x ∈ C) → TT P C B (es ++ fs) → ∃ C', (∀ x ∈ es.foldl stB B, x ∈ C') ∧ TT P C' (es.foldl stB B) fs := by
    intro es
    induction es with
    | nil => exact fun fs C B hs h => ⟨C, hs, h⟩
    | cons x es ih =>
      intro fs C B hs h
      obtain ⟨h1, h2⟩ := h
      refine ih fs _ _ (fun y hy => ?_) h2
      obtain ⟨k, x⟩ := x
      cases k with
      | true =>
        rcases List.mem_append.mp hy with z | z
        · exact List.mem_append_left _ (hs y z)
        · exact List.mem_append_right _ z
      | false => exact hs y (List.mem_of_mem_erase hy)
  rw [es] at v
  obtain ⟨C', hs, h1, _⟩ := key _ _ [] [] (fun x hx => nomatch hx) v
  rw [stAt_fst]
  obtain ⟨k, x⟩ := e
  cases k with
  | true => exact ⟨fun z => h1.1 (hs x z), h1.2⟩
  | false => exact h1
theorem st_len (s : Nat) (hs : s ≤ evs.length) : (stAt P mk0 (evs.take s)).1.length ≤ P ∧ (cnts P evs)[s]? = some (P - (stAt P mk0 (evs.take s)).1.length) := by
  induction s with
  | zero =>
    refine ⟨Nat.zero_le _, ?_⟩
    show (cnts P evs)[0]? = some (P - 0)
    cases evs <;> rfl
  | succ s ih =>
    obtain ⟨i1, i2⟩ := ih (by omega)
    obtain ⟨e, he⟩ : ∃ e, evs[s]? = some e := ⟨_, List.getElem?_eq_getElem (by omega)⟩
    have ef := ev_fits mk0 v he
    have c := cnts_step he i2
    rw [c, take_ev he, stAt_app]
    obtain ⟨k, x⟩ := e
    cases k with
    | true =>
      obtain ⟨_, hl⟩ : x ∉ _ ∧ (stAt P mk0 (evs.take s)).1.length < P := ef
      show ((stAt P mk0 (evs.take s)).1 ++ [x]).length ≤ P ∧ some (P - (stAt P mk0 (evs.take s)).1.length - 1) = some (P - ((stAt P mk0 (evs.take s)).1 ++ [x]).length)
      rw [List.length_append, List.length_singleton]
      exact ⟨hl, by congr 1⟩
    | false =>
      have hx : x ∈ (stAt P mk0 (evs.take s)).1 := ef
      have l1 := List.length_erase_of_mem hx
      have l2 := List.length_pos_of_mem hx
      show ((stAt P mk0 (evs.take s)).1.erase x).length ≤ P ∧ some (P - (stAt P mk0 (evs.take s)).1.length + 1) = some (P - ((stAt P mk0 (evs.take s)).1.erase x).length)
      rw [l1]
      exact ⟨by omega, by congr 1; omega⟩
theorem st_nodup (s : Nat) (hs : s ≤ evs.length) : (stAt P mk0 (evs.take s)).1.Nodup := by
  induction s with
  | zero => exact List.nodup_nil
  | succ s ih =>
    have i1 := ih (by omega)
    obtain ⟨e, he⟩ : ∃ e, evs[s]? = some e := ⟨_, List.getElem?_eq_getElem (by omega)⟩
    have ef := ev_fits mk0 v he
    rw [take_ev he, stAt_app]
    obtain ⟨k, x⟩ := e
    cases k with
    | true =>
      obtain ⟨hx, _⟩ : x ∉ _ ∧ (stAt P mk0 (evs.take s)).1.length < P := ef
      show ((stAt P mk0 (evs.take s)).1 ++ [x]).Nodup
      rw [List.nodup_append]
      refine ⟨i1, List.nodup_cons.mpr ⟨List.not_mem_nil, List.nodup_nil⟩, fun z hz w hw => ?_⟩
      rw [List.mem_singleton.mp hw]
      rintro rfl
      exact hx hz
    | false => exact i1.erase x
theorem here_iff (s : Nat) (hs : s ≤ evs.length) (x : α) : x ∈ (stAt P mk0 (evs.take s)).1 ↔ ∃ c l, (x, c, l) ∈ tabOf evs ∧ c ≤ s ∧ s ≤ l := by
  have bk := book_of mk0 v
  induction s with
  | zero =>
    constructor
    · intro q
      cases q
    · rintro ⟨c, l, q, h1, _⟩
      have := (bk.came x c l q).1
      omega
  | succ s ih =>
    have hs0 : s ≤ evs.length := by omega
    have ih : x ∈ (stAt P mk0 (evs.take s)).1 ↔ ∃ c l, (x, c, l) ∈ tabOf evs ∧ c ≤ s ∧ s ≤ l := ih hs0
    obtain ⟨e, he⟩ : ∃ e, evs[s]? = some e := ⟨_, List.getElem?_eq_getElem (by omega)⟩
    have ef := ev_fits mk0 v he
    rw [take_ev he, stAt_app]
    obtain ⟨k, y⟩ := e
    cases k with
    | true =>
      show x ∈ (stAt P mk0 (evs.take s)).1 ++ [y] ↔ _
      rw [List.mem_append, ih, List.mem_singleton]
      constructor
      · rintro (⟨c, l, q, h1, h2⟩ | rfl)
        · refine ⟨c, l, q, by omega, ?_⟩
          rcases Nat.lt_or_ge s l with z | z
          · exact z
          · have : l = s := by omega
            subst this
            rcases bk.stay x c l q with ⟨a1, _⟩ | ⟨_, _, a3, _⟩
            · omega
            · rw [he] at a3
              cases a3
        · obtain ⟨l, q⟩ := bk.all s x (by omega) he
          refine ⟨s + 1, l, q, Nat.le_refl _, ?_⟩
          rcases bk.stay x _ l q with ⟨a1, _⟩ | ⟨_, a2, _⟩
          · omega
          · exact a2
      · rintro ⟨c, l, q, h1, h2⟩
        rcases Nat.lt_or_ge s c with z | z
        · have : c = s + 1 := by omega
          subst this
          have a3 := (bk.came x _ l q).2.2
          rw [Nat.add_sub_cancel, he] at a3
          cases a3
          exact .inr rfl
        · exact .inl ⟨c, l, q, z, by omega⟩
    | false =>
      have hy : y ∈ (stAt P mk0 (evs.take s)).1 := ef
      show x ∈ (stAt P mk0 (evs.take s)).1.erase y ↔ _
      rw [List.Nodup.mem_erase_iff (st_nodup mk0 v s (by omega)), ih]
      constructor
      · rintro ⟨hne, c, l, q, h1, h2⟩
        refine ⟨c, l, q, by omega, ?_⟩
        rcases Nat.lt_or_ge s l with z | z
        · exact z
        · have : l = s := by omega
          subst this
          rcases bk.stay x c l q with ⟨a1, _⟩ | ⟨_, _, a3, _⟩
          · omega
          · rw [he] at a3
            cases a3
            exact absurd rfl hne
      · rintro ⟨c, l, q, h1, h2⟩
        refine ⟨fun z => ?_, c, l, q, ?_, by omega⟩
        · subst z
          exact bk.outs x c l q s (by omega) (by omega) he
        · rcases Nat.lt_or_ge s c with z | z
          · have : c = s + 1 := by omega
            subst this
            have a3 := (bk.came x _ l q).2.2
            rw [Nat.add_sub_cancel, he] at a3
            cases a3
          · exact z
theorem mark_iff (u s : Nat) (hs : s ≤ evs.length) (x : α) (c l : Nat) (q : (x, c, l) ∈ tabOf evs) (hx : x ∈ (stAt P mk0 (evs.take s)).1) :
    u < (stAt P mk0 (evs.take s)).2 x ↔ ∃ t w, c - 1 ≤ t ∧ t ≤ s ∧ (cnts P evs)[t]? = some w ∧ u < w := by
  have bk := book_of mk0 v
  induction s with
  | zero => cases hx
  | succ s ih =>
    obtain ⟨e, he⟩ : ∃ e, evs[s]? = some e := ⟨_, List.getElem?_eq_getElem (by omega)⟩
    have ef := ev_fits mk0 v he
    have cs := (st_len mk0 v s (by omega)).2
    have cs1 := cnts_step he cs
    rw [take_ev he, stAt_app] at hx ⊢
    obtain ⟨k, y⟩ := e
    cases k with
    | true =>
      have cs2 : (cnts P evs)[s + 1]? = some (P - (stAt P mk0 (evs.take s)).1.length - 1) := cs1
      clear cs1
      show u < (if x = y then P - (stAt P mk0 (evs.take s)).1.length else (stAt P mk0 (evs.take s)).2 x) ↔ _
      by_cases z : x = y
      · subst z
        rw [if_pos rfl]
        obtain ⟨l2, q2⟩ := bk.all s x (by omega) he
        have := tab_uniq bk q q2
        have ec : c = s + 1 := (Prod.mk.inj this).1
        subst ec
        constructor
        · intro h
          exact ⟨s, _, by omega, by omega, cs, h⟩
        · rintro ⟨t, w, h1, h2, h3, h4⟩
          rcases Nat.lt_or_ge t (s + 1) with z | z
          · have : t = s := by omega
            subst this
            rw [cs] at h3
            cases h3
            exact h4
          · have : t = s + 1 := by omega
            subst this
            rw [cs2] at h3
            cases h3
            omega
      · rw [if_neg z]
        have hx2 : x ∈ (stAt P mk0 (evs.take s)).1 := by
          rcases List.mem_append.mp hx with w | w
          · exact w
          · exact absurd (List.mem_singleton.mp w) z
        obtain ⟨c', l', q', h1', _⟩ := (here_iff mk0 v s (by omega) x).mp hx2
        have ec : c = c' := (Prod.mk.inj (tab_uniq bk q q')).1
        have hs0 : s ≤ evs.length := by omega
        have ih : u < (stAt P mk0 (evs.take s)).2 x ↔ ∃ t w, c - 1 ≤ t ∧ t ≤ s ∧ (cnts P evs)[t]? = some w ∧ u < w := ih hs0 hx2
        rw [ih]
        constructor
        · rintro ⟨t, w, h1, h2, h3⟩
          exact ⟨t, w, h1, by omega, h3⟩
        · rintro ⟨t, w, h1, h2, h3, h4⟩
          rcases Nat.lt_or_ge t (s + 1) with z2 | z2
          · exact ⟨t, w, h1, by omega, h3, h4⟩
          · have : t = s + 1 := by omega
            subst this
            rw [cs2] at h3
            cases h3
            exact ⟨s, _, by omega, Nat.le_refl _, cs, by omega⟩
    | false =>
      have cs2 : (cnts P evs)[s + 1]? = some (P - (stAt P mk0 (evs.take s)).1.length + 1) := cs1
      clear cs1
      show u < max ((stAt P mk0 (evs.take s)).2 x) (P - (stAt P mk0 (evs.take s)).1.length + 1) ↔ _
      have hx2 : x ∈ (stAt P mk0 (evs.take s)).1 := List.mem_of_mem_erase (show x ∈ (stAt P mk0 (evs.take s)).1.erase y from hx)
      obtain ⟨c', l', q', h1', _⟩ := (here_iff mk0 v s (by omega) x).mp hx2
      have ec : c = c' := (Prod.mk.inj (tab_uniq bk q q')).1
      have hs0 : s ≤ evs.length := by omega
      have ih := ih hs0 hx2
      constructor
      · intro h
        rcases Nat.lt_or_ge u ((stAt P mk0 (evs.take s)).2 x) with z | z
        · obtain ⟨t, w, h1, h2, h3⟩ := ih.mp z
          exact ⟨t, w, h1, by omega, h3⟩
        · exact ⟨s + 1, _, by omega, Nat.le_refl _, cs2, by omega⟩
      · rintro ⟨t, w, h1, h2, h3, h4⟩
        rcases Nat.lt_or_ge t (s + 1) with z2 | z2
        · have := ih.mpr ⟨t, w, h1, by omega, h3, h4⟩
          omega
        · have : t = s + 1 := by omega
          subst this
          rw [cs2] at h3
          cases h3
          omega
/-- within a stretch: as many boxes have marks above its cover as have been there from its beginning -/
theorem count_row {u a b s : Nat} (r : IsRow u (cnts P evs) a b) (ha : 1 ≤ a) (h1 : a ≤ s) (h2 : s ≤ b) :
    ((stAt P mk0 (evs.take s)).1.countP fun x => decide (u < (stAt P mk0 (evs.take s)).2 x)) = (tabOf evs).countP fun e => decide (e.2.1 ≤ a) && decide (s ≤ e.2.2) := by
  have bk := book_of mk0 v
  have hb := r.bl
  rw [cnts_len] at hb
  have hs : s ≤ evs.length := by omega
  obtain ⟨w0, hw0, hw1⟩ : ∃ c, (cnts P evs)[a - 1]? = some c ∧ u < c := by
    rcases r.lo with z | z
    · omega
    · exact z
  rw [List.countP_eq_length_filter, List.countP_eq_length_filter, ← List.length_map (fun e : α × Nat × Nat => e.1) (as := (tabOf evs).filter _)]
  refine List.Perm.length_eq ?_
  have nd1 : (((tabOf evs).filter fun e => decide (e.2.1 ≤ a) && decide (s ≤ e.2.2)).map fun e => e.1).Nodup := List.Nodup.sublist (List.Sublist.map _ List.filter_sublist) bk.nd
  refine (List.perm_ext_iff_of_nodup ((st_nodup mk0 v s hs).filter _) nd1).mpr fun x => ?_
  rw [List.mem_filter, List.mem_map]
  constructor
  · rintro ⟨hx, hm⟩
    obtain ⟨c, l, q, g1, g2⟩ := (here_iff mk0 v s hs x).mp hx
    obtain ⟨t, w, t1, t2, t3, t4⟩ := (mark_iff mk0 v u s hs x c l q hx).mp (of_decide_eq_true hm)
    refine ⟨(x, c, l), List.mem_filter.mpr ⟨q, ?_⟩, rfl⟩
    have : t < a := Nat.lt_of_not_le fun z => by
      have := r.le t w z (by omega) t3
      omega
    have c1 := (bk.came x c l q).1
    rw [decide_eq_true (show (x, c, l).2.1 ≤ a by show c ≤ a; omega), decide_eq_true (show s ≤ (x, c, l).2.2 from g2)]
    rfl
  · rintro ⟨⟨x', c, l⟩, hq, rfl⟩
    obtain ⟨q, h⟩ := List.mem_filter.mp hq
    obtain ⟨g1, g2⟩ := Bool.and_eq_true_iff.mp h
    have g1 : c ≤ a := of_decide_eq_true g1
    have g2 : s ≤ l := of_decide_eq_true g2
    have hx := (here_iff mk0 v s hs x').mpr ⟨c, l, q, by omega, g2⟩
    have c1 := (bk.came x' c l q).1
    exact ⟨hx, decide_eq_true ((mark_iff mk0 v u s hs x' c l q hx).mpr ⟨a - 1, w0, by omega, by omega, hw0, hw1⟩)⟩
end

/-! ### the latest leaver but so many -/
def nthLate (ls : List Nat) (k : Nat) : Nat := (ls.mergeSort fun a b => decide (a ≤ b)).getD (ls.length - k) 0
theorem sorted_eq {ls ys : List Nat} (p : ys.Perm ls) (s : ys.Pairwise (· ≤ ·)) : ys = ls.mergeSort fun a b => decide (a ≤ b) := by
  refine List.Perm.eq_of_pairwise (le := fun a b => a ≤ b) (fun a b _ _ h1 h2 => Nat.le_antisymm h1 h2) s ?_ (p.trans (List.mergeSort_perm ls _).symm)
  have := List.pairwise_mergeSort (le := fun a b : Nat => decide (a ≤ b)) (fun a b c h1 h2 => decide_eq_true (Nat.le_trans (of_decide_eq_true h1) (of_decide_eq_true h2))) (fun a b => by
    rcases Nat.le_total a b with z | z
    · rw [decide_eq_true z]; rfl
    · rw [decide_eq_true z, Bool.or_true]) ls
  exact this.imp fun h => of_decide_eq_true h
theorem nth_count {ls : List Nat} {k : Nat} (h1 : 1 ≤ k) (h2 : k ≤ ls.length) : (ls.countP fun y => decide (nthLate ls k < y)) < k ∧ k ≤ ls.countP fun y => decide (nthLate ls k ≤ y) := by
  have pm := List.mergeSort_perm ls fun a b => decide (a ≤ b)
  have hs : (ls.mergeSort fun a b => decide (a ≤ b)).Pairwise (· ≤ ·) := by
    have := List.pairwise_mergeSort (le := fun a b : Nat => decide (a ≤ b)) (fun a b c h1 h2 => decide_eq_true (Nat.le_trans (of_decide_eq_true h1) (of_decide_eq_true h2))) (fun a b => by
      rcases Nat.le_total a b with z | z
      · rw [decide_eq_true z]; rfl
      · rw [decide_eq_true z, Bool.or_true]) ls
    exact this.imp fun h => of_decide_eq_true h
  rw [← pm.countP_eq, ← pm.countP_eq]
  unfold nthLate
  have hl := pm.length_eq
  generalize (ls.mergeSort fun a b => decide (a ≤ b)) = ys at pm hs hl ⊢
  rw [← hl] at h2 ⊢
  obtain ⟨i, hi⟩ : ∃ i, i = ys.length - k := ⟨_, rfl⟩
  rw [← hi]
  have il : i < ys.length := by omega
  have eg : ys.getD i 0 = ys[i] := by
    rw [List.getD_eq_getElem?_getD, List.getElem?_eq_getElem il]
    rfl
  rw [eg]
  have sp : ys = ys.take i ++ ys[i] :: ys.drop (i + 1) := by rw [List.getElem_cons_drop, List.take_append_drop]
  have hp := List.pairwise_iff_getElem.mp hs
  have lo : ∀ y ∈ ys.take i, y ≤ ys[i] := fun y hy => by
    obtain ⟨j, hj⟩ := List.mem_iff_getElem?.mp hy
    have hj2 := (List.getElem?_eq_some_iff.mp hj).1
    rw [List.length_take] at hj2
    rw [List.getElem?_take_of_lt (by omega)] at hj
    obtain ⟨jl, rfl⟩ := List.getElem?_eq_some_iff.mp hj
    exact hp j i jl il (by omega)
  have hi2 : ∀ y ∈ ys.drop (i + 1), ys[i] ≤ y := fun y hy => by
    obtain ⟨j, hj⟩ := List.mem_iff_getElem?.mp hy
    rw [List.getElem?_drop] at hj
    obtain ⟨jl, rfl⟩ := List.getElem?_eq_some_iff.mp hj
    exact hp i (i + 1 + j) il jl (by omega)
  have ld : (ys.drop (i + 1)).length = k - 1 := by
    rw [List.length_drop]
    omega
  generalize ys[i] = m at sp lo hi2 ⊢
  rw [sp]
  constructor
  · rw [List.countP_append, List.countP_cons]
    have z1 : (ys.take i).countP (fun y => decide (m < y)) = 0 := by
      rw [List.countP_eq_zero]
      intro y hy
      have := lo y hy
      rw [decide_eq_true_eq]
      omega
    rw [z1, decide_eq_false (Nat.lt_irrefl m), if_neg Bool.false_ne_true]
    have := List.countP_le_length (p := fun y => decide (m < y)) (l := ys.drop (i + 1))
    omega
  · rw [List.countP_append, List.countP_cons, decide_eq_true (Nat.le_refl m), if_pos rfl]
    have z1 : (ys.drop (i + 1)).countP (fun y => decide (m ≤ y)) = (ys.drop (i + 1)).length := by
      rw [List.countP_eq_length]
      intro y hy
      exact decide_eq_true (hi2 y hy)
    omega

/-! ### stuck -/
def maxH (h : List Nat) : Nat := h.foldl max 0
def leavesAt (tab : List (Nat × Nat)) (a : Nat) : List Nat := (tab.filter fun e => decide (e.1 ≤ a) && decide (a ≤ e.2)).map (·.2)
def lateRow (h : List Nat) (tab : List (Nat × Nat)) (u : Nat) (r : Nat × Nat) : Option Nat :=
  if nthLate (leavesAt tab r.1) (owed h u) < r.2 then some (nthLate (leavesAt tab r.1) (owed h u)) else none
def stuckFound (h : List Nat) (counts : List Nat) (tab : List (Nat × Nat)) : List Nat := (List.range (maxH h)).flatMap fun u => (rows u counts).filterMap (lateRow h tab u)
section
variable {α : Type} [DecidableEq α]
def stuckL (h : List Nat) (evs : List (Bool × α)) : List Nat := stuckFound h (cnts h.sum evs) ((tabOf evs).map (·.2))
theorem menu_max : ∀ h ∈ menu, maxH h ≤ 3 ∧ ∀ u, u < 3 → (u < maxH h ↔ 1 ≤ owed h u) := by decide
theorem menu_owed : ∀ h ∈ menu, ∀ u, u < 3 → owed h u ≤ 5 - u := by decide

variable {h : List Nat} (hm : h ∈ menu) (mk0 : α → Nat) {evs : List (Bool × α)} (v : TT h.sum [] [] evs)
include hm v
/-- a stretch begins by a coming: all that is owed is there -/
theorem row_start {u a b : Nat} (hu : u < 3) (r : IsRow u (cnts h.sum evs) a b) : 1 ≤ a ∧ (leavesAt ((tabOf evs).map (·.2)) a).length = (stAt h.sum mk0 (evs.take a)).1.length ∧ owed h u ≤ (leavesAt ((tabOf evs).map (·.2)) a).length := by
  have h5 := menu_sum h hm
  have bk := book_of mk0 v
  have hb := r.bl
  have hab := r.ab
  rw [cnts_len] at hb
  have ha : 1 ≤ a := Nat.lt_of_not_le fun z => by
    have : a = 0 := by omega
    subst this
    have c0 := (st_len mk0 v 0 (Nat.zero_le _)).2
    have c0 : (cnts h.sum evs)[0]? = some (h.sum - 0) := c0
    have := r.le 0 _ (Nat.le_refl _) (Nat.zero_le _) c0
    omega
  have hs : a ≤ evs.length := by omega
  have ll : (leavesAt ((tabOf evs).map (·.2)) a).length = (stAt h.sum mk0 (evs.take a)).1.length := by
    unfold leavesAt
    rw [List.length_map, List.filter_map, List.length_map, ← List.length_map (fun e : α × Nat × Nat => e.1) (as := (tabOf evs).filter _)]
    refine List.Perm.length_eq ?_
    have nd1 : (((tabOf evs).filter ((fun e : Nat × Nat => decide (e.1 ≤ a) && decide (a ≤ e.2)) ∘ fun x => x.2)).map fun e => e.1).Nodup := List.Nodup.sublist (List.Sublist.map _ List.filter_sublist) bk.nd
    refine (List.perm_ext_iff_of_nodup nd1 (st_nodup mk0 v a hs)).mpr fun x => ?_
    rw [here_iff mk0 v a hs x, List.mem_map]
    constructor
    · rintro ⟨⟨x', c, l⟩, hq, rfl⟩
      obtain ⟨q, g⟩ := List.mem_filter.mp hq
      obtain ⟨g1, g2⟩ := Bool.and_eq_true_iff.mp g
      exact ⟨c, l, q, of_decide_eq_true g1, of_decide_eq_true g2⟩
    · rintro ⟨c, l, q, g1, g2⟩
      refine ⟨(x, c, l), List.mem_filter.mpr ⟨q, ?_⟩, rfl⟩
      show (decide (c ≤ a) && decide (a ≤ l)) = true
      rw [decide_eq_true g1, decide_eq_true g2]
      rfl
  refine ⟨ha, ll, ?_⟩
  rw [ll]
  have cs := st_len mk0 v a hs
  have := r.le a _ (Nat.le_refl _) hab cs.2
  have := menu_owed h hm u hu
  omega
theorem late_count {u a b s : Nat} (r : IsRow u (cnts h.sum evs) a b) (h1 : a ≤ s) (h2 : s ≤ b) (hu : u < 3) :
    ((stAt h.sum mk0 (evs.take s)).1.countP fun x => decide (u < (stAt h.sum mk0 (evs.take s)).2 x)) = (leavesAt ((tabOf evs).map (·.2)) a).countP fun y => decide (s ≤ y) := by
  rw [count_row mk0 v r (row_start hm mk0 v hu r).1 h1 h2]
  unfold leavesAt
  rw [List.countP_map, List.filter_map, List.countP_map, List.countP_filter]
  refine List.countP_congr fun e _ => ?_
  show (decide (e.2.1 ≤ a) && decide (s ≤ e.2.2)) = true ↔ (decide (s ≤ e.2.2) && (decide (e.2.1 ≤ a) && decide (a ≤ e.2.2))) = true
  rw [Bool.and_eq_true_iff, Bool.and_eq_true_iff, Bool.and_eq_true_iff]
  rw [decide_eq_true_eq, decide_eq_true_eq, decide_eq_true_eq]
  omega
theorem stuck_mem {L : Nat} (q : L ∈ stuckL h evs) : ∃ u a b, u < 3 ∧ 1 ≤ owed h u ∧ IsRow u (cnts h.sum evs) a b ∧ L = nthLate (leavesAt ((tabOf evs).map (·.2)) a) (owed h u) ∧ L < b := by
  obtain ⟨u, hu, q⟩ := List.mem_flatMap.mp q
  obtain ⟨⟨a, b⟩, hr, e⟩ := List.mem_filterMap.mp q
  have hu := List.mem_range.mp hu
  obtain ⟨m1, m2⟩ := menu_max h hm
  have hu3 : u < 3 := by omega
  unfold lateRow at e
  by_cases c : nthLate (leavesAt ((tabOf evs).map (·.2)) a) (owed h u) < b
  · rw [if_pos c] at e
    cases e
    exact ⟨u, a, b, hu3, (m2 u hu3).mp hu, rows_sound hr, rfl, c⟩
  · rw [if_neg c] at e
    cases e
theorem stuck_bad {L : Nat} (q : L ∈ stuckL h evs) : L < evs.length ∧ ¬ Hall h (stAt h.sum mk0 (evs.take (L + 1))).1 (stAt h.sum mk0 (evs.take (L + 1))).2 := by
  obtain ⟨u, a, b, hu, ow, r, eL, hL⟩ := stuck_mem hm v q
  obtain ⟨ha, ll, ho⟩ := row_start hm mk0 v hu r
  have hb := r.bl
  rw [cnts_len] at hb
  obtain ⟨n1, n2⟩ := nth_count ow ho
  rw [← eL] at n1 n2
  -- the latest leaver is there in the first state
  have haL : a ≤ L := Nat.le_of_not_lt fun z => by
    have e1 : ((leavesAt ((tabOf evs).map (·.2)) a).countP fun y => decide (L < y)) = (leavesAt ((tabOf evs).map (·.2)) a).length := by
      rw [List.countP_eq_length]
      intro y hy
      unfold leavesAt at hy
      obtain ⟨e, he, rfl⟩ := List.mem_map.mp hy
      have g := (Bool.and_eq_true_iff.mp (List.mem_filter.mp he).2).2
      have g := of_decide_eq_true g
      exact decide_eq_true (by omega)
    omega
  refine ⟨by omega, fun hall => ?_⟩
  have cs := st_len mk0 v (L + 1) (by omega)
  have c1 := r.le (L + 1) _ (by omega) (by omega) cs.2
  have := hall u c1 hu
  rw [late_count hm mk0 v r (by omega) (by omega) hu] at this
  have e : ((leavesAt ((tabOf evs).map (·.2)) a).countP fun y => decide (L + 1 ≤ y)) = (leavesAt ((tabOf evs).map (·.2)) a).countP fun y => decide (L < y) := rfl
  omega
theorem bad_stuck {s : Nat} (h1 : 1 ≤ s) (h2 : s ≤ evs.length) (nh : ¬ Hall h (stAt h.sum mk0 (evs.take s)).1 (stAt h.sum mk0 (evs.take s)).2) : ∃ L ∈ stuckL h evs, L < s := by
  obtain ⟨u, hu1, hu2, hu3⟩ : ∃ u, h.sum - (stAt h.sum mk0 (evs.take s)).1.length ≤ u ∧ u < 3 ∧ ¬ owed h u ≤ ((stAt h.sum mk0 (evs.take s)).1.countP fun x => decide (u < (stAt h.sum mk0 (evs.take s)).2 x)) := by
    refine Classical.byContradiction fun z => nh fun u a b => ?_
    exact Classical.byContradiction fun c => z ⟨u, a, b, c⟩
  have cs := st_len mk0 v s h2
  obtain ⟨a, b, hr, g1, g2⟩ := rows_all cs.2 hu1
  have r := rows_sound hr
  obtain ⟨ha, ll, ho⟩ := row_start hm mk0 v hu2 r
  rw [late_count hm mk0 v r g1 g2 hu2] at hu3
  have ow : 1 ≤ owed h u := by omega
  obtain ⟨n1, n2⟩ := nth_count ow ho
  have hL : nthLate (leavesAt ((tabOf evs).map (·.2)) a) (owed h u) < s := Nat.lt_of_not_le fun z => by
    have : ((leavesAt ((tabOf evs).map (·.2)) a).countP fun y => decide (nthLate (leavesAt ((tabOf evs).map (·.2)) a) (owed h u) ≤ y)) ≤ (leavesAt ((tabOf evs).map (·.2)) a).countP fun y => decide (s ≤ y) :=
      List.countP_mono_left fun y _ q => decide_eq_true (Nat.le_trans z (of_decide_eq_true q))
    omega
  obtain ⟨m1, m2⟩ := menu_max h hm
  refine ⟨_, List.mem_flatMap.mpr ⟨u, List.mem_range.mpr ((m2 u hu2).mpr ow), List.mem_filterMap.mpr ⟨(a, b), hr, ?_⟩⟩, hL⟩
  unfold lateRow
  rw [if_pos (show nthLate (leavesAt ((tabOf evs).map (·.2)) (a, b).1) (owed h u) < (a, b).2 from Nat.lt_of_lt_of_le hL g2)]
include mk0 in
/-- THE PLAIN LAW: trying all standings tells the stuck event -/
theorem tried_stuck : (triedGo h [h.map fun _ => []] 0 evs = none ∧ stuckL h evs = []) ∨ ∃ e, triedGo h [h.map fun _ => []] 0 evs = some e ∧ e ∈ stuckL h evs ∧ ∀ y ∈ stuckL h evs, e ≤ y := by
  have h5 := menu_sum h hm
  cases evs with
  | nil => exact .inl ⟨rfl, by
      cases q : stuckL h ([] : List (Bool × α)) with
      | nil => rfl
      | cons L ls =>
        have := (stuck_bad hm mk0 v (L := L) (by rw [q]; exact List.mem_cons_self)).1
        exact absurd this (Nat.not_lt_zero L)⟩
  | cons e0 es0 =>
    have te := tried_eq hm e0.2 (e0 :: es0) (by
      have := TT.valid (C := []) (B := []) (fun x hx => nomatch hx) v
      rw [h5] at this
      exact this) mk0
    rw [te]
    cases q : firstBad h [] mk0 0 (e0 :: es0) with
    | none =>
      refine .inl ⟨rfl, ?_⟩
      have all := firstBad_none (h := h) (mk0 := mk0) (e0 :: es0) [] q
      cases q2 : stuckL h (e0 :: es0) with
      | nil => rfl
      | cons L ls =>
        obtain ⟨b1, b2⟩ := stuck_bad hm mk0 v (L := L) (by rw [q2]; exact List.mem_cons_self)
        exact absurd (all (L + 1) (by omega) b1) b2
    | some e =>
      refine .inr ⟨e, rfl, ?_⟩
      obtain ⟨j, e1, e2, e3, e4⟩ := firstBad_some (h := h) (mk0 := mk0) (e0 :: es0) [] e q
      have e1 : e = j := by rw [e1]; exact Nat.zero_add j
      subst e1
      have low : ∀ y ∈ stuckL h (e0 :: es0), e ≤ y := fun y hy => Nat.le_of_not_lt fun z => by
        obtain ⟨b1, b2⟩ := stuck_bad hm mk0 v hy
        exact b2 (e4 (y + 1) (by omega) (by omega))
      obtain ⟨L, hL, lt⟩ := bad_stuck hm mk0 v (s := e + 1) (by omega) e2 e3
      have := low L hL
      have : L = e := by omega
      subst this
      exact ⟨hL, low⟩
end
end K19M
end

section
set_option autoImplicit false
set_option linter.all false
set_option maxRecDepth 100000
/-! M10: how many standings there can be; the short stretches. -/
namespace K19M
section
variable {α : Type} [DecidableEq α]
/-- a standing of the boxes B -/
def Sta (h : List Nat) (B : List α) (Z : Sd α) : Prop := fits h Z = true ∧ Z.flatten.Perm B
theorem sta_len {h : List Nat} (hm : h ∈ menu) {B : List α} (lB : B.length ≤ 5) {l : List (Sd α)} (nd : l.Nodup) (hl : ∀ Z ∈ l, Sta h B Z) : l.length ≤ 400 :=
  Nat.le_trans (nd.length_le_of_subset fun Z hZ => mem_allB (hl Z hZ).1 (hl Z hZ).2) (allB_len hm lB)
theorem sta_next {h : List Nat} (hm : h ∈ menu) {B : List α} {X Y : Sd α} (d : α) (s : Sta h B X) (hY : Y ∈ nexts h X) : Sta h B Y := by
  obtain ⟨p, f, _⟩ := k_next hm s.1 d hY
  exact ⟨f, p.trans s.2⟩
theorem sta_ev {h : List Nat} (hm : h ∈ menu) {B : List α} {X Y : Sd α} {e : Bool × α} (nB : B.Nodup) (hB : e.1 = true → B.length < 5) (s : Sta h B X) (hY : Y ∈ stepsEv h e X) : Sta h (stB B e) Y := by
  obtain ⟨b, x⟩ := e
  have h5 := menu_sum h hm
  cases b with
  | true =>
    have := (k_in hm s.1 x (by rw [s.2.length_eq, h5]; exact hB rfl)).2 Y hY
    exact ⟨this.2.1, this.1.trans (List.Perm.append_right [x] s.2)⟩
  | false =>
    have := k_out hm s.1 (s.2.nodup_iff.mpr nB) hY
    exact ⟨this.2.1, this.1.trans (s.2.erase x)⟩
theorem sta_lens {h : List Nat} {B : List α} {X : Sd α} (s : Sta h B X) : X.length = h.length := by
  have := s.1
  unfold fits at this
  exact of_decide_eq_true (Bool.and_eq_true_iff.mp this).1
theorem sta_spread {h : List Nat} (hm : h ∈ menu) {B : List α} (d : α) {A : List (Sd α)} (hA : ∀ Z ∈ A, Sta h B Z) : ∀ Z ∈ spread h A, Sta h B Z := fun Z hZ => by
  obtain ⟨Y, hY, r⟩ := spread_sound hZ
  obtain ⟨p, f, _⟩ := k_reach hm (hA Y hY).1 d r
  exact ⟨f, p.trans (hA Y hY).2⟩
theorem sta_empty (h : List Nat) : Sta h ([] : List α) (h.map fun _ => []) := by
  have hf : ∀ (h : List Nat), fits h (h.map fun _ => ([] : List α)) = true ∧ (h.map fun _ => ([] : List α)).flatten = [] := by
    intro h
    induction h with
    | nil => exact ⟨rfl, rfl⟩
    | cons n h ih =>
      obtain ⟨i1, i2⟩ := ih
      refine ⟨?_, i2⟩
      unfold fits at i1 ⊢
      obtain ⟨a, b⟩ := Bool.and_eq_true_iff.mp i1
      rw [decide_eq_true (by rw [List.length_map] : (List.map (fun _ => ([] : List α)) (n :: h)).length = (n :: h).length), Bool.true_and]
      exact Bool.and_eq_true_iff.mpr ⟨decide_eq_true (Nat.zero_le n), b⟩
  exact ⟨(hf h).1, by rw [(hf h).2]⟩
theorem sta_getD {h : List Nat} {B : List α} {X : Sd α} (s : Sta h B X) (i : Nat) : ∀ x ∈ X.getD i [], x ∈ B := fun x hx => by
  refine s.2.mem_iff.mp ?_
  by_cases hi : i < X.length
  · rw [List.getD_eq_getElem?_getD, List.getElem?_eq_getElem hi] at hx
    exact List.mem_flatten.mpr ⟨_, List.getElem_mem hi, hx⟩
  · rw [List.getD_eq_getElem?_getD, List.getElem?_eq_none (by omega)] at hx
    cases hx
theorem sta_getD_len {h : List Nat} {B : List α} {X : Sd α} (s : Sta h B X) (i : Nat) : (X.getD i []).length ≤ B.length := by
  rw [← s.2.length_eq]
  by_cases hi : i < X.length
  · rw [List.getD_eq_getElem?_getD, List.getElem?_eq_getElem hi]
    exact (List.sublist_flatten_of_mem (List.getElem_mem hi)).length_le
  · rw [List.getD_eq_getElem?_getD, List.getElem?_eq_none (by omega)]
    exact Nat.zero_le _
/-! ### short stretches and late leavers -/
/-- who stays from a to b -/
def stayOf (tab : List (α × Nat × Nat)) (a b : Nat) : List α := (tab.filter fun e => decide (e.2.1 ≤ a) && decide (b ≤ e.2.2)).map (·.1)
theorem countP_sorted_nth {ls : List Nat} {k b : Nat} (h1 : 1 ≤ k) (h2 : k ≤ ls.length) : nthLate ls k < b ↔ (ls.countP fun y => decide (b ≤ y)) < k := by
  obtain ⟨c1, c2⟩ := nth_count h1 h2
  constructor
  · intro h
    refine Nat.lt_of_le_of_lt (List.countP_mono_left fun y _ hy => ?_) c1
    have := of_decide_eq_true hy
    exact decide_eq_true (by omega)
  · intro h
    refine Nat.lt_of_not_le fun z => ?_
    refine absurd c2 (Nat.not_le.mpr (Nat.lt_of_le_of_lt (List.countP_mono_left fun y _ hy => ?_) h))
    have := of_decide_eq_true hy
    exact decide_eq_true (by omega)
end
end K19M
end

section
set_option Elab.async false
set_option linter.all false
set_option maxRecDepth 100000
set_option maxHeartbeats 4000000
/-! R0: data in the abstract heap (tuples alone), sorted of data. -/
namespace K19
open PySem L2

/-! ### data: None, bools, ints, texts, tuples of these -/
mutual
inductive Dt (K : PySem.W.Frag) (H : Hp) : V → PyData → Prop
  | non : Dt K H .non .none
  | bl (b : Bool) : Dt K H (.bl b) (.bool b)
  | int (i : Int) : Dt K H (.int i) (.int i)
  | str (x : Str) : Dt K H (.str x) (.str x)
  | tup {a : Addr} {xs : List V} {ds : List PyData} : SqT K H a xs → DtAll K H xs ds → Dt K H (.ref a) (.tuple ds)
inductive DtAll (K : PySem.W.Frag) (H : Hp) : List V → List PyData → Prop
  | nil : DtAll K H [] []
  | cons {v : V} {vs : List V} {d : PyData} {ds : List PyData} : Dt K H v d → DtAll K H vs ds → DtAll K H (v :: vs) (d :: ds)
end
/-- what is a tuple stays one -/
def TupEx (K : PySem.W.Frag) (H H' : Hp) : Prop := ∀ b xs, SqT K H b xs → SqT K H' b xs
section
variable {K : PySem.W.Frag} {H H' H2 : Hp}
theorem TupEx.refl : TupEx K H H := fun _ _ h => h
theorem TupEx.trans (a : TupEx K H H') (b : TupEx K H' H2) : TupEx K H H2 := fun p xs h => b p xs (a p xs h)
theorem tupEx_upd {p : Addr} {o : HO} (h : ∀ xs, ¬ Rd H p (.tup xs)) : TupEx K H (upd H p o) := fun b xs q => by
  rcases q with q | q
  · refine .inl ?_
    have hb : b ≠ p := fun e => h xs (e ▸ q)
    rcases q with q | ⟨o', q⟩
    · exact .inl (by rw [upd_ne hb]; exact q)
    · exact .inr ⟨o', by rw [upd_ne hb]; exact q⟩
  · exact .inr q
theorem tupEx_new {p : Addr} {o : HO} (h : H p = none) : TupEx K H (upd H p o) := tupEx_upd fun xs q => by
  rcases q with q | ⟨o', q⟩
  · rw [h] at q; cases q
  · rw [h] at q; cases q
theorem tupEx_at {p : Addr} {o u : HO} (h : H p = some u) (hu : ∀ xs, u ≠ .tup xs) (hf : ∀ o' xs, u ≠ .frz o' (.tup xs)) : TupEx K H (upd H p o) := tupEx_upd fun xs q => by
  rcases q with q | ⟨o', q⟩
  · rw [h] at q; exact hu xs (Option.some.inj q)
  · rw [h] at q; exact hf o' xs (Option.some.inj q)
theorem tupEx_lst {p : Addr} {o : HO} {ys : List V} (h : H p = some (.lst ys)) : TupEx K H (upd H p o) := tupEx_at h (fun _ e => nomatch e) fun _ _ e => nomatch e
theorem tupEx_same (h : ∀ b o, H b = some o → H' b = some o) : TupEx K H H' := fun b xs q => by
  rcases q with (q | ⟨o', q⟩) | q
  · exact .inl (.inl (h _ _ q))
  · exact .inl (.inr ⟨o', h _ _ q⟩)
  · exact .inr q
mutual
theorem Dt.mono (m : TupEx K H H') : ∀ (d : PyData) (v : V), Dt K H v d → Dt K H' v d
  | .none, _, h => by cases h; exact .non
  | .bool b, _, h => by cases h; exact .bl b
  | .int i, _, h => by cases h; exact .int i
  | .str x, _, h => by cases h; exact .str x
  | .list _, _, h => by cases h
  | .tuple ds, _, h => by
    cases h with
    | tup a b => exact .tup (m _ _ a) (DtAll.mono m ds _ b)
  | .dict _, _, h => by cases h
theorem DtAll.mono (m : TupEx K H H') : ∀ (ds : List PyData) (vs : List V), DtAll K H vs ds → DtAll K H' vs ds
  | [], _, h => by cases h; exact .nil
  | d :: ds, _, h => by
    cases h with
    | cons a b => exact .cons (Dt.mono m d _ a) (DtAll.mono m ds _ b)
end
mutual
theorem Dt.dp : ∀ (d : PyData) (v : V), Dt K H v d → Dp K H v d
  | .none, _, h => by cases h; exact .non
  | .bool b, _, h => by cases h; exact .bl b
  | .int i, _, h => by cases h; exact .int i
  | .str x, _, h => by cases h; exact .str x
  | .list _, _, h => by cases h
  | .tuple ds, _, h => by
    cases h with
    | tup a b => exact .tup a (DtAll.dp ds _ b)
  | .dict _, _, h => by cases h
theorem DtAll.dp : ∀ (ds : List PyData) (vs : List V), DtAll K H vs ds → DpAll K H vs ds
  | [], _, h => by cases h; exact .nil
  | d :: ds, _, h => by
    cases h with
    | cons a b => exact .cons (Dt.dp d _ a) (DtAll.dp ds _ b)
end
theorem Dt.tup_inv {v : V} {ds : List PyData} (h : Dt K H v (.tuple ds)) : ∃ a xs, v = .ref a ∧ SqT K H a xs ∧ DtAll K H xs ds := by
  cases h with
  | tup a b => exact ⟨_, _, rfl, a, b⟩
theorem Dt.int_inv {v : V} {i : Int} (h : Dt K H v (.int i)) : v = .int i := by cases h; rfl
theorem Dt.str_inv {v : V} {x : Str} (h : Dt K H v (.str x)) : v = .str x := by cases h; rfl
theorem DtAll.nil_inv {vs : List V} (h : DtAll K H vs []) : vs = [] := by cases h; rfl
theorem DtAll.cons_inv {vs : List V} {d : PyData} {ds : List PyData} (h : DtAll K H vs (d :: ds)) : ∃ v r, vs = v :: r ∧ Dt K H v d ∧ DtAll K H r ds := by
  cases h with
  | cons a b => exact ⟨_, _, rfl, a, b⟩
theorem DtAll.length : ∀ {ds : List PyData} {vs : List V}, DtAll K H vs ds → vs.length = ds.length
  | [], _, h => by cases h; rfl
  | d :: ds, _, h => by
    cases h with
    | cons a b => rw [List.length_cons, List.length_cons, DtAll.length b]
theorem DtAll.get : ∀ {ds : List PyData} {vs : List V} {i : Nat} {v : V}, DtAll K H vs ds → vs[i]? = some v → ∃ d, ds[i]? = some d ∧ Dt K H v d
  | [], _, _, _, h, e => by cases h; cases e
  | d :: ds, _, 0, _, h, e => by
    cases h with
    | cons a b => cases e; exact ⟨d, rfl, a⟩
  | d :: ds, _, i + 1, _, h, e => by
    cases h with
    | cons a b => exact DtAll.get (i := i) b e
theorem DtAll.get' : ∀ {ds : List PyData} {vs : List V} {i : Nat} {d : PyData}, DtAll K H vs ds → ds[i]? = some d → ∃ v, vs[i]? = some v ∧ Dt K H v d
  | [], _, _, _, h, e => by cases e
  | d :: ds, _, 0, _, h, e => by
    cases h with
    | cons a b => cases e; exact ⟨_, rfl, a⟩
  | d :: ds, _, i + 1, _, h, e => by
    cases h with
    | cons a b => exact DtAll.get' (i := i) b e
theorem DtAll.app : ∀ {ds : List PyData} {vs : List V} {es : List PyData} {ws : List V}, DtAll K H vs ds → DtAll K H ws es → DtAll K H (vs ++ ws) (ds ++ es)
  | [], _, _, _, h, h2 => by cases h; exact h2
  | d :: ds, _, _, _, h, h2 => by
    cases h with
    | cons a b => exact .cons a (DtAll.app b h2)
theorem DtAll.take : ∀ {ds : List PyData} {vs : List V} (n : Nat), DtAll K H vs ds → DtAll K H (vs.take n) (ds.take n)
  | _, _, 0, _ => .nil
  | [], _, n + 1, h => by cases h; exact .nil
  | d :: ds, _, n + 1, h => by
    cases h with
    | cons a b => exact .cons a (DtAll.take n b)
theorem DtAll.drop : ∀ {ds : List PyData} {vs : List V} (n : Nat), DtAll K H vs ds → DtAll K H (vs.drop n) (ds.drop n)
  | _, _, 0, h => h
  | [], _, n + 1, h => by cases h; exact .nil
  | d :: ds, _, n + 1, h => by
    cases h with
    | cons a b => exact DtAll.drop n b
theorem DtAll.set : ∀ {ds : List PyData} {vs : List V} {v : V} {d : PyData} (n : Nat), DtAll K H vs ds → Dt K H v d → DtAll K H (vs.set n v) (ds.set n d)
  | [], _, _, _, n, h, _ => by cases h; exact .nil
  | d :: ds, _, _, _, 0, h, q => by
    cases h with
    | cons a b => exact .cons q b
  | d :: ds, _, _, _, n + 1, h, q => by
    cases h with
    | cons a b => exact .cons a (DtAll.set n b q)
theorem DtAll.strs : ∀ {xs : List Str} {vs : List V}, DtAll K H vs (xs.map PyData.str) → vs = xs.map V.str
  | [], _, h => by cases h; rfl
  | x :: xs, _, h => by
    obtain ⟨v, r, rfl, a, b⟩ := DtAll.cons_inv h
    rw [Dt.str_inv a, DtAll.strs b]
    rfl
theorem DtAll.of_strs : ∀ (xs : List Str), DtAll K H (xs.map V.str) (xs.map PyData.str)
  | [] => .nil
  | x :: xs => .cons (.str x) (DtAll.of_strs xs)
theorem DtAll.ints : ∀ {xs : List Int} {vs : List V}, DtAll K H vs (xs.map PyData.int) → vs = xs.map V.int
  | [], _, h => by cases h; rfl
  | x :: xs, _, h => by
    obtain ⟨v, r, rfl, a, b⟩ := DtAll.cons_inv h
    rw [Dt.int_inv a, DtAll.ints b]
    rfl
theorem DtAll.of_ints : ∀ (xs : List Int), DtAll K H (xs.map V.int) (xs.map PyData.int)
  | [] => .nil
  | x :: xs => .cons (.int x) (DtAll.of_ints xs)
end

/-! ### values that stand for data -/
open PySem.W (EachIs)
def DtB (K : PySem.W.Frag) (H : Hp) {β : Type} (enc : β → PyData) (v : V) (b : β) : Prop := Dt K H v (enc b)
theorem dtAll_each {K : PySem.W.Frag} {H : Hp} {β : Type} {enc : β → PyData} : ∀ {bs : List β} {vs : List V}, DtAll K H vs (bs.map enc) → EachIs (DtB K H enc) vs bs
  | [], _, h => by cases h; exact .nil
  | b :: bs, _, h => by
    obtain ⟨v, r, rfl, a, q⟩ := DtAll.cons_inv h
    exact .cons a (dtAll_each q)
theorem each_dtAll {K : PySem.W.Frag} {H : Hp} {β : Type} {enc : β → PyData} : ∀ {bs : List β} {vs : List V}, EachIs (DtB K H enc) vs bs → DtAll K H vs (bs.map enc)
  | _, _, .nil => .nil
  | _, _, .cons a q => .cons a (each_dtAll q)
theorem each_vals {R : V → Value → Prop} {β : Type} {T : V → β → Prop} : ∀ {us : List Value} {bs : List β}, EachIs (fun u b => ∃ v, R v u ∧ T v b) us bs → ∃ vs, Paired R vs us ∧ EachIs T vs bs
  | _, _, .nil => ⟨[], .nil, .nil⟩
  | _, _, .cons ⟨v, r, t⟩ q => by
    obtain ⟨vs, a, b⟩ := each_vals q
    exact ⟨v :: vs, .cons r a, .cons t b⟩
theorem vals_each {K : PySem.W.Frag} {H : Hp} {β : Type} {enc : β → PyData} : ∀ {vs : List V} {us : List Value} {bs : List β}, Vals vs us → EachIs (DtB K H enc) vs bs → EachIs (fun u b => ∃ v, RelV v u ∧ DtB K H enc v b) us bs
  | _, _, _, .nil, .nil => .nil
  | _, _, _, .cons r t, .cons a q => .cons ⟨_, r, a⟩ (vals_each t q)

/-- sorted(xs), xs a list of data of one form -/
def rSortedDt (K : PySem.W.Frag) : List V → Hp → VK → Prop := fun vs H Q => ∃ (a : Addr) (xs : List V) (β : Type) (bs : List β) (enc : β → PyData), vs = [V.ref a] ∧ SqL K H a xs ∧ DtAll K H xs (bs.map enc) ∧
  PySem.W.AllAlike (bs.map enc) ∧ PySem.W.Sortable (bs.map enc) ∧ bs.length ≤ 100000 ∧ (∀ b ∈ bs, (enc b).depth ≤ 40) ∧
  ∀ (ys : List V) (p : Addr), DtAll K H ys ((bs.mergeSort (PySem.W.dataLe false enc)).map enc) → H p = none → Q (.ref p) (upd H p (.lst ys))
theorem cr_sortedDt {X : Cx} (hu : X.A.units + 64 < cLine) : CallR X (.builtin "sorted") (rSortedDt X.K) := by
  intro pins s σ H vs us Q I r h
  obtain ⟨a, xs, β, bs, enc, rfl, hs, hd, hal, hso, hlen, hdep, q⟩ := h
  obtain ⟨its, rv, hl, _⟩ := I.list hs
  rw [Vals.ref1 r]
  have e0 := vals_each rv (dtAll_each hd)
  have hbl : bs.length = its.length := by
    have e1 := rv.length
    have e2 := hd.length
    rw [List.length_map] at e2
    omega
  have hsz : bs.length ≤ sizeLine := Nat.le_trans hlen (by decide)
  refine PySem.W.sorted_data (s := s) (vs := its) (bs := bs) (enc := enc) (R := fun u b => ∃ v, RelV v u ∧ DtB X.K H enc v b) hl.isList e0 (e0.mono fun u b ⟨v, r1, d1⟩ => Dp.reads I _ v u (Dt.dp _ _ d1) r1) hal hso hsz
    (fun b hb => by have := hdep b hb; omega) fun out ho eo => ?_
  obtain ⟨ys, rys, dys⟩ := each_vals eo
  obtain ⟨ep, he'⟩ := PyProof.Rows.sortedAll_at s.heap its (List.toArray out)
  have hyl : ys.length ≤ sizeLine := by
    have e1 := Paired.length rys
    omega
  exact ⟨.ref _, upd H (s.heap.objs.size + 1) (.lst ys), I.laid (t' := s.toks) (fun _ _ => PyProof.Rows.sortedAll_old) (Nat.le_succ _) ⟨hyl, out, ep, rys, he'⟩, rfl,
    q ys _ (each_dtAll dys) (I.hok.fresh (Nat.le_succ _))⟩
end K19
end

section
set_option Elab.async false
set_option linter.all false
set_option maxRecDepth 100000
set_option maxHeartbeats 4000000
/-! R1: tuple(sorted(set(xs))), xs a list of unlike texts. -/
namespace K19
open PySem L2 PyProof.Rows

def keyT (e : Int × Value) : Str := match e.2 with
  | .str x _ => x
  | _ => Str.empty
def TxE (w : World) (e : Int × Value) : Prop := ∃ x tk, e.2 = Value.str x tk ∧ e.1 = hashStr w x
/-- at a the set of the texts xs; its table rises, it can be walked -/
def TxSet (w : World) (h : Heap) (a : Addr) (xs : List Str) : Prop :=
  ∃ o es ep t, h.get? a = some o ∧ o.ExactSet ∧ o.data = .set es ep t ∧ (∀ e ∈ es.toList, TxE w e) ∧ (es.toList.map keyT).Perm xs ∧ es.size < scanBound ∧ t.fits es.size = true ∧ Ris t.place.toList ∧ (w.params.followText "set-order" = true ∨ t.led = true)
section
variable {P : Program} {w : World} {A : Around} {E : Value → Shared → Prop} {s : Shared} {a : Addr} {xs : List Str}
theorem TxSet.keep {h h' : Heap} (R : TxSet w h a xs) (k : ∀ o, h.get? a = some o → h'.get? a = some o) : TxSet w h' a xs := by
  obtain ⟨o, es, ep, t, ho, r⟩ := R
  exact ⟨o, es, ep, t, k o ho, r⟩
theorem tx_elems {l : List (Int × Value)} (g : ∀ e ∈ l, TxE w e) : ElemsOf (PySem.strKind P w) l := fun e he => by
  obtain ⟨x, tk, h1, h2⟩ := g e he
  exact ⟨⟨x, by rw [h1]; exact strKind_is _ _ _ _, h2⟩, by rw [h1]; rfl⟩
theorem tx_is {e : Int × Value} (g : TxE w e) {x : Str} (q : (PySem.strKind P w).is x e.2 = true) : keyT e = x := by
  obtain ⟨y, tk, h1, _⟩ := g
  unfold keyT
  rw [h1] at q ⊢
  obtain ⟨t, e2⟩ := Value.isStrOf_shape (x := x) (v := .str y tk) q
  injection e2
/-- the last part of an addition: laid, and laid anew where the table is too full -/
theorem tx_laid {g : Bool → Sem Unit} (hg : ∀ (b : Bool) (z : Shared) (F : Unit → Shared → Prop), F () z → wpAny (model P w) A (g b) F E z) {o : Obj} {es0 es : Array (Int × Value)} {ep : Nat} {t0 t : SetTable} (ho : s.heap.get? a = some o) (hx : o.ExactSet) (hd : o.data = .set es0 ep t0)
    (he : ∀ e ∈ es.toList, TxE w e) (hp : (es.toList.map keyT).Perm xs) (hb : es.size < scanBound) (hf : t.fits es.size = true) (hr : Ris t.place.toList) (hl : w.params.followText "set-order" = true ∨ t.led = true) {dum : Bool} {F : Option Bool → Shared → Prop}
    (hF : ∀ h', Heap.SameBut a s.heap h' → TxSet w h' a xs → F (some true) { s with heap := h' }) :
    wpAny (model P w) A (do
        storeSet a es t
        if (!dum && t.tooFull) = true then do
            g (relayAll t es (SetTable.grown es.size)).2.2
            storeSet a (relayAll t es (SetTable.grown es.size)).1 (relayAll t es (SetTable.grown es.size)).2.1
            pure (some true)
          else pure (some true)) F E s := by
  have first := store_at (es' := es) (t' := t) ho hd
  have but := Heap.SameBut.update s.heap a (Obj.putSet es t)
  refine wpAny_bind (wpAny_storeSet_of ho hd ?_ (fits_of_scanBound hb))
  by_cases full : (!dum && t.tooFull) = true
  · rw [if_pos full]
    have q1 := relayAll_perm t es (SetTable.grown es.size)
    have q2 := relayAll_fits t es (SetTable.grown es.size)
    have q3 := relayAll_ris t es (SetTable.grown es.size)
    have q4 := relayAll_led t es (SetTable.grown es.size)
    generalize relayAll t es (SetTable.grown es.size) = R at q1 q2 q3 q4 ⊢
    obtain ⟨es', t', gv⟩ := R
    dsimp only at q1 q2 q3 q4 ⊢
    have same : es'.size = es.size := by
      have := q1.length_eq
      rw [Array.length_toList, Array.length_toList] at this
      exact this
    refine wpAny_bind (hg _ _ _ (wpAny_bind (wpAny_storeSet_of first rfl ?_ (fits_of_scanBound (by rw [same]; exact hb)))))
    refine wpAny_pure (hF _ (but.trans (Heap.SameBut.update _ a _)) ?_)
    exact ⟨_, es', _, t', store_at (es' := es') (t' := t') first rfl, hx, rfl, fun e m => he e (q1.mem_iff.mp m), (q1.map keyT).trans hp, by rw [same]; exact hb, q2, q3, hl.imp id fun z => by rw [q4]; exact z⟩
  · rw [if_neg full]
    exact wpAny_pure (hF _ but ⟨_, es, _, t, first, hx, rfl, he, hp, hb, hf, hr, hl⟩)
/-- a new text is added -/
theorem tx_add {x : Str} {tk : Tok} {F : Bool → Shared → Prop} (R : TxSet w s.heap a xs) (hx : x ∉ xs) (hn : xs.length + 1 < scanBound)
    (hF : ∀ h', Heap.SameBut a s.heap h' → TxSet w h' a (x :: xs) → F true { s with heap := h' }) : wpAny (model P w) A (setAddHashed a (.str x tk) ((PySem.strKind P w).hash x)) F E s := by
  obtain ⟨o, es, ep, t, ho, hex, hd, he, hp, hb, hf, hr, hl⟩ := R
  have el : ElemsOf (PySem.strKind P w) es.toList := tx_elems he
  have size : es.size = xs.length := by
    have := hp.length_eq
    rw [List.length_map, Array.length_toList] at this
    exact this
  have none : List.findIdx? (fun e => (PySem.strKind P w).is x e.2) es.toList = none := List.findIdx?_eq_none_iff.mpr fun e m => by
    cases q : (PySem.strKind P w).is x e.2 with
    | false => rfl
    | true =>
      have := tx_is (he e m) q
      exact absurd (hp.mem_iff.mp (List.mem_map.mpr ⟨e, m, this⟩)) hx
  unfold setAddHashed setAddHashedIn
  refine wpAny_holding (wpAny_bind (wpAny_setState_of ho hd hf ?_))
  dsimp only
  rw [byScan_of (knd := PySem.strKind P w) (x := .str x tk) rfl hb el, if_pos rfl]
  unfold setAddByScan
  refine wpAny_bind (wpAny_bind (wpAny_rule (wpAny_bind (wpAny_setScan_of (knd := PySem.strKind P w) (k := x) (strKind_is _ _ _ _) ho hd hf el ?_))))
  rw [none]
  dsimp only
  have q1 := layNew_perm t es ((PySem.strKind P w).hash x) (.str x tk)
  have q2 := layNew_fits t es ((PySem.strKind P w).hash x) (.str x tk)
  have q3 := layNew_ris t es ((PySem.strKind P w).hash x) (.str x tk) hr
  have q4 := layNew_led t es ((PySem.strKind P w).hash x) (.str x tk)
  generalize layNew t es ((PySem.strKind P w).hash x) (.str x tk) = R at q1 q2 q3 q4 ⊢
  obtain ⟨es', t', dum, gv⟩ := R
  dsimp only at q1 q2 q3 q4 ⊢
  rw [Array.toList_push] at q1
  have q5 : es'.toList.Perm (((PySem.strKind P w).hash x, Value.str x tk) :: es.toList) := q1.trans (List.perm_append_singleton _ _)
  have he' : ∀ e ∈ es'.toList, TxE w e := fun e m => by
    rcases List.mem_cons.mp (q5.mem_iff.mp m) with z | z
    · rw [z]
      exact ⟨x, tk, rfl, rfl⟩
    · exact he e z
  have hp' : (es'.toList.map keyT).Perm (x :: xs) := (q5.map keyT).trans (hp.cons x)
  have hb' : es'.size < scanBound := by
    have := hp'.length_eq
    rw [List.length_map, Array.length_toList, List.length_cons] at this
    omega
  have hl' : w.params.followText "set-order" = true ∨ t'.led = true := hl.imp id fun z => by rw [q4]; exact z
  have gw : ∀ (b : Bool) (z : Shared) (G : Unit → Shared → Prop), G () z → wpAny (model P w) A (match b with | true => rule "set.scan.the-table-gave-way" | false => pure ()) G E z := fun b z G q => by
    cases b
    · exact wpAny_pure q
    · exact wpAny_rule q
  refine wpAny_bind (gw _ _ _ ?_)
  by_cases pl : t'.plain = true
  · rw [if_pos pl, hashByValue_scannable 8 (show (Value.str x tk).scannable = true from rfl)]
    refine wpAny_bind (wpAny_pure ?_)
    rw [if_neg (show ¬ plainKind (Value.str x tk) = true from Bool.false_ne_true)]
    exact tx_laid (t := { t' with plain := false }) gw ho hex hd he' hp' hb' (SetTable.fits_plain_off q2) q3 hl' fun h' sb r => wpAny_pure (hF h' sb r)
  · rw [if_neg pl]
    refine wpAny_bind (wpAny_pure ?_)
    rw [if_pos rfl]
    exact tx_laid gw ho hex hd he' hp' hb' q2 q3 hl' fun h' sb r => wpAny_pure (hF h' sb r)
end
end K19
end

section
set_option Elab.async false
set_option linter.all false
set_option maxRecDepth 100000
set_option maxHeartbeats 4000000
/-! R2: set(xs), sorted(that), tuple(that). -/
namespace K19
open PySem L2 PyProof.Rows

theorem strs_val : ∀ {xs : List Str} {us : List Value}, Vals (xs.map V.str) us → ∀ (i : Nat) (v : Value), us[i]? = some v → ∃ x t, xs[i]? = some x ∧ v = .str x t
  | [], _, .nil, i, v, h => by cases h
  | x :: xs, _, .cons r t, 0, v, h => by
    obtain ⟨tk, e⟩ := r
    cases h
    exact ⟨x, tk, rfl, e⟩
  | x :: xs, _, .cons r t, i + 1, v, h => strs_val t i v h
section
variable {P : Program} {w : World} {A : Around} {E : Value → Shared → Prop} {s : Shared}
theorem tx_loop {I : Addr} {fp wr : List Addr} {G : Array GenState → Array GenState → Prop} {n : Nat} {Pv : Nat → Value → Prop} {St : Nat → Shared → Prop} {R : Result → Shared → Prop}
    (W : WalksS P w A.in1 I fp wr G n Pv St) (S : Addr) (hS : S ∉ fp) (xs : List Str) (nd : xs.Nodup) (hn : n = xs.length) (hb : xs.length + 1 < scanBound) (hv : ∀ i v, Pv i v → ∃ x t, xs[i]? = some x ∧ v = .str x t) :
    ∀ (k i : Nat) (s : Shared), n - i = k → i ≤ n → St i s → TxSet w s.heap S (xs.take i).reverse →
      (∀ s', Moved (S :: wr) G s s' → TxSet w s'.heap S xs.reverse → R (.ok (.ret .none)) s') → codeAny (model P w) A (.builtin "set.update.loop" ⟨[.ref S, .ref I], []⟩) R s := by
  have out : S ∉ wr := fun z => hS (W.sub _ z)
  have more : ∀ b ∈ wr, b ∈ S :: wr := fun b z => List.mem_cons_of_mem _ z
  intro k
  induction k with
  | zero =>
    intro i s hk hi hst hT hR
    have : i = n := by omega
    subst this
    refine codeAny_builtin F.entry_set_update_loop ?_
    rw [Around.under_plainId F.plain_set_update_loop _]
    show wpAny _ A.in1 (pyNext (.ref I) >>= _) _ _ s
    refine wpAny_bind (W.done s _ _ hst fun s' hm => ?_)
    rw [List.take_of_length_le (by omega)] at hT
    exact wpAny_pure (hR s' (hm.mono more) (hT.keep fun o e => hm.heap S o out e))
  | succ k ih =>
    intro i s hk hi hst hT hR
    have hlt : i < n := by omega
    refine codeAny_builtin F.entry_set_update_loop ?_
    rw [Around.under_plainId F.plain_set_update_loop _]
    show wpAny _ A.in1 (pyNext (.ref I) >>= _) _ _ s
    refine wpAny_bind (W.item i s _ _ hlt hst fun v s' hP hst' hm => ?_)
    obtain ⟨x, t, hx, rfl⟩ := hv i v hP
    have hT' : TxSet w s'.heap S (xs.take i).reverse := hT.keep fun o e => hm.heap S o out e
    have new : x ∉ (xs.take i).reverse := fun z => by
      obtain ⟨j, hj⟩ := List.mem_iff_getElem?.mp (List.mem_reverse.mp z)
      have jl := (List.getElem?_eq_some_iff.mp hj).1
      rw [List.length_take] at jl
      rw [List.getElem?_take_of_lt (by omega)] at hj
      obtain ⟨j1, e1⟩ := List.getElem?_eq_some_iff.mp hj
      obtain ⟨i1, e2⟩ := List.getElem?_eq_some_iff.mp hx
      have := (List.getElem_inj nd).mp (e1.trans e2.symm)
      omega
    show wpAny _ A.in1 (holding [Value.str x t] (setAdd S (.str x t)) >>= _) _ _ s'
    refine wpAny_bind (wpAny_holding ?_)
    unfold setAdd
    refine wpAny_holding (wpAny_bind ((PySem.strKind P w).pyHash (k := x) (strKind_is _ _ _ _) ?_))
    refine tx_add (s := { s' with toks := s'.toks + 1 }) hT' new (by rw [List.length_reverse, List.length_take]; omega) fun h' sb hT2 => ?_
    have e3 : x :: (xs.take i).reverse = (xs.take (i + 1)).reverse := by
      rw [List.take_add_one, hx, List.reverse_append]
      rfl
    rw [e3] at hT2
    refine wpAny_pure ⟨plainId_quiet F.plain_set_update_loop _, ih (i + 1) _ (by omega) hlt (W.frame _ s' _ _ hst' (Nat.le_succ _) fun b hb o e => ?_) hT2 fun s'' hm2 hT3 => ?_⟩
    · rw [sb.2 b (fun z : b = S => hS (z ▸ hb))]
      exact e
    · refine hR s'' (Moved.trans W.gtrans ((hm.mono more).then_heap (Nat.le_succ _) fun b o hb e => ?_) hm2) hT3
      rw [sb.2 b (fun z : b = S => hb (by rw [z]; exact List.mem_cons_self))]
      exact e
theorem tx_empty {h : Heap} {a : Addr} (ho : h.get? a = some { cls := .type "set", dict := none, data := .set #[] 0 (.fresh 0 0 (!w.params.followText "set-order")) }) : TxSet w h a [] :=
  ⟨_, #[], 0, _, ho, ⟨rfl, rfl, rfl⟩, rfl, (fun e he => by simp at he), .nil, (by decide), rfl, List.Pairwise.nil, by
    show _ ∨ (!w.params.followText "set-order") = true
    cases w.params.followText "set-order"
    · exact .inr rfl
    · exact .inl rfl⟩

/-- a new set -/
abbrev set0 (w : World) : Obj := { cls := .type "set", dict := none, data := .set #[] 0 (.fresh 0 0 (!w.params.followText "set-order")) }
set_option maxHeartbeats 8000000 in
theorem call_set_txts {l : Addr} {items : Array Value} (xs : List Str) (nd : xs.Nodup) {Q : Value → Shared → Prop} (hh : A.handled = none) (hl : s.heap.IsList l items) (hv : Vals (xs.map V.str) items.toList) (hb : xs.length + 1 < scanBound)
    (h : ∀ (h' : Heap) (tk : Nat), TxSet w h' s.heap.objs.size xs.reverse → (∀ b o, s.heap.get? b = some o → h'.get? b = some o) → Q (.ref s.heap.objs.size) { s with heap := h', toks := tk }) :
    wpAny (model P w) A (call (.type "set") [.ref l]) Q E s := by
  have isz : items.size = xs.length := by
    have q := hv.length
    rw [List.length_map, Array.length_toList] at q
    exact q.symm
  obtain ⟨c, tl, hmro⟩ := PySem.F.called_set.mro
  have hmade := PySem.F.called_set.made
  have hsub := PySem.F.called_set.sub
  refine wpAny_call (codeAny_of_tree ?_)
  show wpAny _ _ (callAny (.type "set") _) _ _ _
  refine wpAny_pure ⟨Code.quiet_builtin _ (by decide +kernel), codeAny_builtin PySem.F.entry_type_call ?_⟩
  rw [Around.under_plain (weight_type_call_type "set" [.ref l] []) rfl]
  have h1 := PySem.F.called_set.notType
  have h2 := PySem.F.called_set.canCreate
  have hct := F.typeCall_set_1 (.ref l)
  repeat (any_goals (first | assumption | wp_step))
  refine codeAny_mono (code_set_led1 (.ref l) (E := E) (Q₁ := fun obj z => obj = .ref s.heap.objs.size ∧ z = { s with heap := s.heap.push (set0 w) }) ⟨rfl, rfl⟩) fun r z hr => ?_
  cases r with
  | error e => exact hr
  | ok fl =>
    cases fl with
    | ret obj =>
      obtain ⟨rfl, rfl⟩ := hr
      have gS : (s.heap.push (set0 w)).get? s.heap.objs.size = some (set0 w) := Heap.get?_push_size _ rfl
      have tyS : Shared.TypeIs { s with heap := s.heap.push (set0 w) } (.ref s.heap.objs.size) "set" := ⟨_, gS, rfl⟩
      have hli := PySem.F.called_set.init.lookup
      have hbi := PySem.F.called_set.init.bind (.ref s.heap.objs.size)
      repeat (any_goals (first | assumption | wp_step))
      refine codeAny_mono (codeAny_call_builtin (R := wants (fun r z => r = .none ∧ ∃ h' tk, z = { s with heap := h', toks := tk } ∧ TxSet w h' s.heap.objs.size xs.reverse ∧ (∀ b o, s.heap.get? b = some o → h'.get? b = some o)) E)
        PySem.F.called_set.init.plain PySem.F.entry_set_init (check_set_init_1 tyS ?_)) fun r2 z2 hr2 => ?_
      · obtain ⟨ol, hol, hcl, nl, hdl⟩ := hl
        obtain ⟨ocls, odict, odata, oslots⟩ := ol
        simp only at hcl hdl
        subst hcl; subst hdl
        have hol' : (s.heap.push (set0 w)).get? l = some { cls := .type "list", dict := odict, data := .seq items nl, slots := oslots } := Heap.get?_push_of_some _ hol
        have hsls := PySem.F.sub_list_set
        have hslf := PySem.F.sub_list_frozenset
        have hne : (Value.type "list" == Value.type "dict") = false := by decide
        have hl1 : (s.heap.push (set0 w)).IsList l items := ⟨_, hol', rfl, nl, rfl⟩
        unfold Builtin.«set.__init__» noKeywords Builtin.Frozenset.updateFrom
        generalize hPI : pyIter = PI
        wp_walk
        subst hPI
        refine wpAny_pyIter_list hl1 ?_
        refine wpAny_bind (wpAny_runValue ?_)
        have lS : l < s.heap.objs.size := Heap.lt_size hol
        have h3 : A.in1.in1.in1.handled = none := by simp [hh]
        have sz : (s.heap.push (set0 w)).objs.size = s.heap.objs.size + 1 := Heap.size_push ..
        have lI : l ≠ (s.heap.push (set0 w)).objs.size := by rw [sz]; exact Nat.ne_of_lt (Nat.lt_succ_of_lt lS)
        have SI : s.heap.objs.size ∉ [(s.heap.push (set0 w)).objs.size, l] := by
          rw [sz]
          simp only [List.mem_cons, List.mem_singleton, List.not_mem_nil, or_false, not_or]
          exact ⟨Nat.ne_of_lt (Nat.lt_succ_self _), Nat.ne_of_gt lS⟩
        refine tx_loop ((Walks.list h3 _ l lI items).toS) s.heap.objs.size SI xs nd isz hb (fun i v e => strs_val hv i v (by rw [Array.getElem?_toList]; exact e)) (items.size - 0) 0 _ (by omega) (Nat.zero_le _)
          ⟨⟨_, Heap.get?_push_size _ rfl, rfl, rfl⟩, (hl1.push _)⟩ ?hS0 ?hR
        case hS0 =>
          exact tx_empty (Heap.get?_push_of_some _ gS)
        case hR =>
          intro s' hm hT
          obtain ⟨h', g2, d', tk', os'⟩ := s'
          have eg : g2 = s.gens := hm.gens
          have ed : d' = s.drawn := hm.drawn
          have eo : os' = s.os := hm.os
          subst eg; subst ed; subst eo
          show wpAny _ _ _ _ _ _
          refine wpAny_pure ?_
          show wpAny _ _ (ret Value.none) _ _ _
          refine wpAny_pure ⟨rfl, h', tk', rfl, hT, fun b o e => ?_⟩
          have b0 : b < s.heap.objs.size := Heap.lt_size e
          have b1 : b ≠ s.heap.objs.size := Nat.ne_of_lt b0
          have b2 : b ≠ (s.heap.push (set0 w)).objs.size := by rw [sz]; exact Nat.ne_of_lt (Nat.lt_succ_of_lt b0)
          exact hm.heap b o (by simp only [List.mem_cons, List.mem_singleton, List.not_mem_nil, or_false, not_or]; exact ⟨b1, b2⟩) (Heap.get?_push_of_some _ (Heap.get?_push_of_some _ e))
      · cases r2 with
        | error e => exact hr2
        | ok fl2 =>
          cases fl2 with
          | ret r =>
            obtain ⟨rfl, h', tk, rfl, hT, hk⟩ := hr2
            repeat (any_goals (first | assumption | wp_step))
            exact h _ _ hT hk
          | _ => exact hr2.elim
    | _ => exact hr.elim

end

/-! ### the sorted texts -/
def sortT (xs : List Str) : List Str := xs.mergeSort (PySem.W.dataLe false PyData.str)
theorem leT (x y : Str) : PySem.W.dataLe false PyData.str x y = decide (x.cps.toList ≤ y.cps.toList) := congrFun (congrFun (PySem.W.dataLe_str (fun z : Str => z)) x) y
theorem leT_anti {x y : Str} (h1 : PySem.W.dataLe false PyData.str x y = true) (h2 : PySem.W.dataLe false PyData.str y x = true) : x = y := by
  rw [leT] at h1 h2
  exact PySem.W.str_of_cps (List.le_antisymm (of_decide_eq_true h1) (of_decide_eq_true h2))
theorem leT_total : PySem.W.TotalLe (PySem.W.dataLe false PyData.str) := PySem.W.sortLe_total _ false _
theorem sortT_perm (xs : List Str) : (sortT xs).Perm xs := List.mergeSort_perm xs _
theorem sortT_sorted (xs : List Str) : (sortT xs).Pairwise fun x y => PySem.W.dataLe false PyData.str x y = true := PySem.W.sort_pairwise leT_total xs
theorem sortT_eq {xs ys : List Str} (p : ys.Perm xs) : sortT ys = sortT xs :=
  List.Perm.eq_of_pairwise (le := fun x y => PySem.W.dataLe false PyData.str x y = true) (fun _ _ _ _ h1 h2 => leT_anti h1 h2) (sortT_sorted ys) (sortT_sorted xs) (((sortT_perm ys).trans p).trans (sortT_perm xs).symm)

section
variable {P : Program} {w : World} {A : Around} {E : Value → Shared → Prop} {s : Shared}
/-- sorted of such a set -/
theorem sorted_txts {a : Addr} {xs : List Str} {Q : Value → Shared → Prop} (R : TxSet w s.heap a xs) (hh : A.handled = none) (h64 : xs.length ≤ 1000) (hu : A.units + 64 < cLine)
    (hQ : ∀ s' p (out : List Value) (c : Nat), (∀ b o, s.heap.get? b = some o → s'.heap.get? b = some o) → s'.gens = s.gens → s'.os = s.os → s.heap.objs.size ≤ p →
      s'.heap.get? p = some (seqObj "list" out.toArray c) → Vals ((sortT xs).map V.str) out → Q (.ref p) s') :
    wpAny (model P w) A (call (.builtin "sorted") [.ref a]) Q E s := by
  obtain ⟨o, es, ep, t, ho, hex, hd, g, hp, hb, hf, hr, hl⟩ := R
  refine Calls.call_function_entry kind_sorted plain_sorted entry_sorted (args_sorted1 _) ?_
  unfold Builtin.«sorted»
  refine wpAny_bind (m := checkCount "sorted" 1 1 _) (wpAny_pure ?_)
  refine wpAny_bind (collect_set (A := A.in1) hh ⟨o, ho, hex.1, hd⟩ hf hb hr hl fun s1 vs k1 hz g1 o1 pm => ?_)
  have len : vs.length = xs.length := by rw [pm.length_eq, ← hp.length_eq, List.length_map, List.length_map]
  -- the texts, as they were gathered
  obtain ⟨zs, hz1, hz2⟩ : ∃ zs : List Str, Vals (zs.map V.str) vs ∧ zs.Perm xs := by
    have key : ∀ l : List Value, (∀ v ∈ l, ∃ x tk, v = Value.str x tk) → ∃ zs : List Str, Vals (zs.map V.str) l ∧ zs = l.map fun v => keyT (0, v) := by
      intro l
      induction l with
      | nil => exact fun _ => ⟨[], .nil, rfl⟩
      | cons v l ih =>
        intro q
        obtain ⟨zs, r, e⟩ := ih fun u hu => q u (List.mem_cons_of_mem _ hu)
        obtain ⟨x, tk, rfl⟩ := q v List.mem_cons_self
        exact ⟨x :: zs, .cons ⟨tk, rfl⟩ r, by rw [List.map_cons, e]; rfl⟩
    obtain ⟨zs, r, e⟩ := key vs fun v hv => by
      obtain ⟨e, he, q⟩ := List.mem_map.mp (pm.mem_iff.mp hv)
      obtain ⟨x, tk, h1, _⟩ := g e he
      exact ⟨x, tk, by rw [← q]; exact h1⟩
    refine ⟨zs, r, ?_⟩
    have p2 := pm.map (fun v => keyT (0, v))
    rw [List.map_map, ← e] at p2
    exact p2.trans hp
  have hn : vs.length ≤ sizeLine := by rw [len]; exact Nat.le_trans h64 (by decide)
  refine wpAny_bind (wpAny_newList ?_ hn)
  have hoL : (s1.heap.push (seqObj "list" vs.toArray 0)).get? s1.heap.objs.size = some (seqObj "list" vs.toArray 0) := Heap.get?_push_size _ rfl
  have each : ∀ {zs : List Str} {vs : List Value}, Vals (zs.map V.str) vs → PySem.W.EachIs (fun v x => ∃ t, v = Value.str x t) vs zs := by
    intro zs
    induction zs with
    | nil =>
      intro vs r
      cases r
      exact .nil
    | cons z zs ih =>
      intro vs r
      cases r with
      | cons a b => exact .cons a (ih b)
  have back : ∀ {zs : List Str} {vs : List Value}, PySem.W.EachIs (fun v x => ∃ t, v = Value.str x t) vs zs → Vals (zs.map V.str) vs := by
    intro zs vs q
    induction q with
    | nil => exact .nil
    | cons a _ ih => exact .cons a ih
  have e0 := each hz1
  show wpAny _ _ (holding [Value.ref s1.heap.objs.size] (call (.builtin "list.sort") [.ref s1.heap.objs.size]) >>= fun _ => ret (.ref s1.heap.objs.size)) _ _ { s1 with heap := s1.heap.push (seqObj "list" vs.toArray 0) }
  refine wpAny_bind (wpAny_holding (PySem.W.list_sort_data (enc := PyData.str) hoL e0 (e0.mono fun v x ⟨t, e⟩ => ⟨[], by rw [e]; exact Reads.str x t, List.not_mem_nil⟩) (PySem.W.AllAlike.of fun _ _ => rfl) (PySem.W.Sortable.others fun x => ⟨(fun e => nomatch e), (fun _ e => nomatch e)⟩)
    (by have := e0.length; omega) (fun x _ => by
      show A.in1.units + 1 + 0 < cLine
      show A.units + 1 + 1 + 0 < cLine
      omega) fun out ho2 eo => ?_))
  obtain ⟨c, hc⟩ := sortedHeap_at (vs := vs) (out := List.toArray out) hoL
  have rv := back eo
  rw [show zs.mergeSort (PySem.W.dataLe false PyData.str) = sortT xs from sortT_eq hz2] at rv
  refine wpAny_pure ⟨_, rfl, hQ _ s1.heap.objs.size out c (fun b u e => ?_) g1 o1 hz hc rv⟩
  have q := k1 b u e
  have hlt := Heap.lt_size q
  show (sortedHeap (s1.heap.push (seqObj "list" vs.toArray 0)) s1.heap.objs.size vs (List.toArray out)).get? b = some u
  rw [sortedHeap_old (Nat.ne_of_lt hlt) (by rw [size_push']; exact Nat.lt_succ_of_lt hlt)]
  exact Heap.get?_push_of_some _ q
end

/-! ### over the layer -/
def TxO (w : World) (a : Addr) (xs : List Str) : HO := .ext fun h => TxSet w h a xs
def rSetTx (K : PySem.W.Frag) (w : World) : List V → Hp → VK → Prop := fun vs H Q => ∃ (l : Addr) (xs : List Str), vs = [V.ref l] ∧ SqL K H l (xs.map V.str) ∧ xs.Nodup ∧ xs.length ≤ 1000 ∧ ∀ p, H p = none → Q (.ref p) (upd H p (TxO w p xs.reverse))
theorem cr_setTx {X : Cx} (hc : X.calm = true) : CallR X (.type "set") (rSetTx X.K X.w) := by
  intro pins s σ H vs us Q I r h
  obtain ⟨l, xs, rfl, hs, nd, hl, q⟩ := h
  obtain ⟨its, rv, hp, _⟩ := I.list hs
  rw [Vals.ref1 r]
  refine call_set_txts xs nd (I.ok.hd hc) hp.isList (by simpa using rv) (by unfold scanBound; omega) fun h' tk hT hk => ?_
  exact ⟨.ref _, upd H s.heap.objs.size (TxO X.w s.heap.objs.size xs.reverse), I.laid (t' := tk) hk (Nat.le_refl _) ⟨hT, (let ⟨o, _, _, _, ho, _⟩ := hT; ⟨o, ho⟩), fun h1 h2 p k => p.keep k⟩, rfl, q _ (I.hok.fresh (Nat.le_refl _))⟩
def rSortTx (w : World) : List V → Hp → VK → Prop := fun vs H Q => ∃ (a : Addr) (xs : List Str), vs = [V.ref a] ∧ H a = some (TxO w a xs) ∧ xs.length ≤ 1000 ∧ ∀ p, H p = none → Q (.ref p) (upd H p (.lst ((sortT xs).map V.str)))
theorem cr_sortTx {X : Cx} (hc : X.calm = true) (hu : X.A.units + 64 < cLine) : CallR X (.builtin "sorted") (rSortTx X.w) := by
  intro pins s σ H vs us Q I r h
  obtain ⟨a, xs, rfl, ha, hl, q⟩ := h
  have R : TxSet X.w s.heap a xs := (I.hok a _ ha).1
  rw [Vals.ref1 r]
  refine sorted_txts R (I.ok.hd hc) hl hu fun s' p out c k g o hp hg hi => ?_
  have hlen : ((sortT xs).map V.str).length ≤ sizeLine := by rw [List.length_map, (sortT_perm xs).length_eq]; exact Nat.le_trans hl (by decide)
  have hn : H p = none := I.hok.fresh hp
  have J : Inv X pins σ (upd H p (.lst ((sortT xs).map V.str))) { s with heap := s'.heap, gens := s'.gens, drawn := s'.drawn, toks := s'.toks } :=
    I.call (ch := []) (Un.laid k hp hn) (I.hok.laid k hp ⟨hlen, out, c, hi, hg⟩) (by rw [g]; exact I.bare) (fun _ z => nomatch z)
  have e : s' = { s with heap := s'.heap, gens := s'.gens, drawn := s'.drawn, toks := s'.toks } := by
    cases s'
    cases s
    cases o
    rfl
  rw [e]
  exact ⟨.ref p, _, J, rfl, q p hn⟩
end K19
end

section
set_option Elab.async false
set_option linter.all false
set_option maxRecDepth 100000
set_option maxHeartbeats 4000000
/-! R3: a dict whose keys are standings (tuples of tuples of texts). -/
namespace K19
open PySem L2

mutual
def toKey : PyData → NestedKey
  | .none => .none
  | .bool b => .num (if b = true then 1 else 0)
  | .int i => .num i
  | .str x => .text x
  | .tuple ds => .tup (toKeys ds)
  | .list _ => .none
  | .dict _ => .none
def toKeys : List PyData → List NestedKey
  | [] => []
  | d :: ds => toKey d :: toKeys ds
end
section
variable {X : Cx} {pins : List (Addr × Obj)} {σ : L2.St} {H : Hp} {s : Shared}
mutual
theorem Dt.key (I : Inv X pins σ H s) : ∀ (d : PyData) (v : V) (u : Value), Dt X.K H v d → RelV v u → NestedIs s.heap (toKey d) u
  | .none, _, _, h, r => by
    cases h
    cases r
    exact .none
  | .bool b, _, _, h, r => by
    cases h
    cases r
    exact .bool rfl
  | .int i, _, _, h, r => by
    cases h
    obtain ⟨t, rfl⟩ := r
    exact .int i t
  | .str x, _, _, h, r => by
    cases h
    obtain ⟨t, rfl⟩ := r
    exact .text x t
  | .list _, _, _, h, _ => by cases h
  | .tuple ds, _, _, h, r => by
    cases h with
    | tup hs ha =>
      cases r
      obtain ⟨its, rv, ⟨o, ho, hc, n, hd⟩, _⟩ := I.tuple hs
      exact .tup ho hc hd (DtAll.keys I ds _ its ha rv)
  | .dict _, _, _, h, _ => by cases h
theorem DtAll.keys (I : Inv X pins σ H s) : ∀ (ds : List PyData) (vs : List V) (us : List Value), DtAll X.K H vs ds → Vals vs us → NestedAll s.heap (toKeys ds) us
  | [], _, _, h, r => by
    cases h
    cases r
    exact .nil
  | d :: ds, _, _, h, r => by
    cases h with
    | cons h1 h2 =>
      cases r with
      | cons r1 r2 => exact .cons (Dt.key I d _ _ h1 r1) (DtAll.keys I ds _ _ h2 r2)
end
end

/-! ### standings as data -/
def stD (X : K19M.Sd Str) : PyData := .tuple (X.map fun st => .tuple (st.map .str))
theorem toKeys_strs : ∀ {xs ys : List Str}, toKeys (xs.map PyData.str) = toKeys (ys.map PyData.str) → xs = ys
  | [], [], _ => rfl
  | [], _ :: _, e => nomatch e
  | _ :: _, [], e => nomatch e
  | x :: xs, y :: ys, e => by
    have e : (NestedKey.text x :: toKeys (xs.map PyData.str)) = NestedKey.text y :: toKeys (ys.map PyData.str) := e
    obtain ⟨e1, e2⟩ := List.cons.inj e
    rw [NestedKey.text.inj e1, toKeys_strs e2]
theorem stKeys_inj : ∀ {X Y : K19M.Sd Str}, toKeys (X.map fun st => PyData.tuple (st.map .str)) = toKeys (Y.map fun st => PyData.tuple (st.map .str)) → X = Y
  | [], [], _ => rfl
  | [], _ :: _, e => nomatch e
  | _ :: _, [], e => nomatch e
  | st :: X, st' :: Y, e => by
    have e : (NestedKey.tup (toKeys (st.map .str)) :: toKeys (X.map fun st => PyData.tuple (st.map .str))) = NestedKey.tup (toKeys (st'.map .str)) :: toKeys (Y.map fun st => PyData.tuple (st.map .str)) := e
    obtain ⟨e1, e2⟩ := List.cons.inj e
    rw [toKeys_strs (NestedKey.tup.inj e1), stKeys_inj e2]
theorem stKey_inj {X Y : K19M.Sd Str} (e : toKey (stD X) = toKey (stD Y)) : X = Y := stKeys_inj (NestedKey.tup.inj e)

/-! ### the dict -/
abbrev SeenL := List (K19M.Sd Str × Addr)
def seenX (L : SeenL) : List (NestedKey × Addr × Value) := L.map fun p => (toKey (stD p.1), p.2, Value.bool true)
def SeenH (P : Program) (w : World) (h : Heap) (d : Addr) (L : SeenL) : Prop :=
  (d == sysModules) = false ∧ ∃ o es ep, h.get? d = some o ∧ o.ExactDict ∧ o.data = .dict es ep ∧ es.toList = (seenX L).map (entryOfKey (nestedKind P w)) ∧ ((seenX L).map (·.1)).Nodup
def SeenO (P : Program) (w : World) (d : Addr) (L : SeenL) : HO := .ext fun h => SeenH P w h d L
def KeysOk (K : PySem.W.Frag) (H : Hp) (L : SeenL) : Prop := ∀ p ∈ L, Dt K H (.ref p.2) (stD p.1)
theorem SeenH.ok {P : Program} {w : World} {H : Hp} {h : Heap} {d : Addr} {L : SeenL} (R : SeenH P w h d L) : ObjOk P w H h d (SeenO P w d L) := by
  obtain ⟨hd, o, es, ep, ho, r⟩ := R
  exact ⟨⟨hd, o, es, ep, ho, r⟩, ⟨o, ho⟩, fun h1 h2 ⟨hd, o, es, ep, ho, r⟩ k => ⟨hd, o, es, ep, k o ho, r⟩⟩
theorem seen_at (L : SeenL) (X : K19M.Sd Str) : (atKey (seenX L) (toKey (stD X))).isSome = decide (X ∈ L.map (·.1)) := by
  induction L with
  | nil => rfl
  | cons p L ih =>
    by_cases e : p.1 = X
    · rw [decide_eq_true (show X ∈ (p :: L).map (·.1) by rw [List.map_cons, e]; exact List.mem_cons_self)]
      unfold seenX atKey
      rw [List.map_cons, List.find?_cons]
      rw [decide_eq_true (show (toKey (stD p.1), p.2, Value.bool true).1 = toKey (stD X) by rw [e])]
      rfl
    · have e2 : ¬ toKey (stD p.1) = toKey (stD X) := fun z => e (stKey_inj z)
      have e3 : decide (X ∈ (p :: L).map (·.1)) = decide (X ∈ L.map (·.1)) := by
        refine decide_eq_decide.mpr ?_
        rw [List.map_cons, List.mem_cons]
        exact ⟨fun z => z.elim (fun z => absurd z.symm e) id, .inr⟩
      rw [e3, ← ih]
      unfold seenX atKey
      rw [List.map_cons, List.find?_cons]
      rw [decide_eq_false (show ¬ (toKey (stD p.1), p.2, Value.bool true).1 = toKey (stD X) from e2)]
section
variable {X : Cx} {pins : List (Addr × Obj)} {σ : L2.St} {H : Hp} {s : Shared} {d : Addr} {L : SeenL}
theorem seen_dict (I : Inv X pins σ H s) (e : H d = some (SeenO X.prog X.w d L)) (k : KeysOk X.K H L) : (d == sysModules) = false ∧ s.heap.DictOfH (nestedKind X.prog X.w) d (seenX L) := by
  obtain ⟨hd, o, es, ep, ho, h1, h2, h3, h4⟩ := (I.hok d _ e).1
  refine ⟨hd, o, es, ep, ho, h1, h2, h3, fun x hx => ?_, h4⟩
  obtain ⟨p, hp, rfl⟩ := List.mem_map.mp hx
  refine ⟨Dt.key I _ _ _ (k p hp) rfl, ?_⟩
  exact depth_st p.1
where
  depth_st (Y : K19M.Sd Str) : NestedKey.depth (toKey (stD Y)) ≤ 8 := by
    have h1 : ∀ xs : List Str, NestedKey.depthAll (toKeys (xs.map PyData.str)) = 0 := by
      intro xs
      induction xs with
      | nil => rfl
      | cons x xs ih =>
        show max 0 (NestedKey.depthAll (toKeys (xs.map PyData.str))) = 0
        rw [ih]
        rfl
    have h2 : ∀ Y : K19M.Sd Str, NestedKey.depthAll (toKeys (Y.map fun st => PyData.tuple (st.map .str))) ≤ 1 := by
      intro Y
      induction Y with
      | nil => exact Nat.zero_le _
      | cons st Y ih =>
        show max (NestedKey.depthAll (toKeys (st.map PyData.str)) + 1) (NestedKey.depthAll (toKeys (Y.map fun st => PyData.tuple (st.map .str)))) ≤ 1
        rw [h1]
        exact Nat.max_le.mpr ⟨Nat.le_refl _, ih⟩
    show NestedKey.depthAll (toKeys (Y.map fun st => PyData.tuple (st.map .str))) + 1 ≤ 8
    have := h2 Y
    omega
theorem seen_room {A : Around} (hu : A.units + 64 < cLine) : (nestedKind X.prog X.w).room A.in1 := by
  show A.units + 1 + 8 < cLine
  omega
theorem seen_key (I : Inv X pins σ H s) {a : Addr} {Y : K19M.Sd Str} (h : Dt X.K H (.ref a) (stD Y)) : (nestedKind X.prog X.w).is s.heap (toKey (stD Y)) a :=
  ⟨Dt.key I _ _ _ h rfl, seen_dict.depth_st Y⟩
/-- y in seen, y not in seen -/
def rSeenIn (K : PySem.W.Frag) (P : Program) (w : World) (neg : Bool) : R2 := fun x y H Q => ∃ (a d : Addr) (Y : K19M.Sd Str) (L : SeenL), x = .ref a ∧ y = .ref d ∧ Dt K H (.ref a) (stD Y) ∧ H d = some (SeenO P w d L) ∧ KeysOk K H L ∧ Q (.bl (if neg then !decide (Y ∈ L.map (·.1)) else decide (Y ∈ L.map (·.1)))) H
theorem op_seenNotIn (hu : X.A.units + 64 < cLine) : OpR X (compareOp .NotIn) (rSeenIn X.K X.prog X.w true) := by
  intro pins s σ H x y v u Q I rx ry h
  obtain ⟨a, d, Y, L, rfl, rfl, ha, hd, hk, q⟩ := h
  cases rx
  cases ry
  obtain ⟨hs, dd⟩ := seen_dict I hd hk
  show wpAny _ _ (do return Value.bool (!(← contains (.ref d) (.ref a)))) _ _ s
  refine wpAny_bind (wpAny_contains_heap (seen_room (X := X) hu) (seen_key I ha) hs dd (wpAny_pure ?_))
  rw [seen_at]
  exact ⟨.bl _, H, I.tok _, rfl, q⟩
/-- seen[y] = True, y new -/
def rSeenPut (K : PySem.W.Frag) (P : Program) (w : World) : TSet := fun o i v H Q => ∃ (a d : Addr) (Y : K19M.Sd Str) (L : SeenL), o = .ref d ∧ i = .ref a ∧ v = .bl true ∧ Dt K H (.ref a) (stD Y) ∧ H d = some (SeenO P w d L) ∧ KeysOk K H L ∧ Y ∉ L.map (·.1) ∧ L.length ≤ 1000 ∧
  Q (upd H d (SeenO P w d (L ++ [(Y, a)])))
theorem set_seen (hu : X.A.units + 64 < cLine) : PSet X (rSeenPut X.K X.prog X.w) := by
  intro pins s σ H o i v ov iv u Q I ro ri rv h
  obtain ⟨a, d, Y, L, rfl, rfl, rfl, ha, hd, hk, hn, hl, q⟩ := h
  cases ro
  cases ri
  cases rv
  obtain ⟨hs, dd⟩ := seen_dict I hd hk
  refine wpAny_setItem_heap (hsz := by unfold seenX; rw [List.length_map]; exact Nat.le_trans hl (by decide)) (seen_room (X := X) hu) (seen_key I ha) dd fun h' dd' sb => ?_
  obtain ⟨o, es, ep, ho, h1, h2, h3, _, h5⟩ := dd'
  have e : storedH (seenX L) (toKey (stD Y)) a (Value.bool true) = seenX (L ++ [(Y, a)]) := by
    have z := seen_at L Y
    rw [decide_eq_false hn] at z
    unfold storedH
    rw [z, if_neg Bool.false_ne_true]
    unfold seenX
    rw [List.map_append]
    rfl
  rw [e] at h3 h5
  have R : SeenH X.prog X.w h' d (L ++ [(Y, a)]) := ⟨hs, o, es, ep, ho, h1, h2, h3, h5⟩
  exact ⟨upd H d (SeenO X.prog X.w d (L ++ [(Y, a)])), d_write I (by rw [hd]; trivial) sb ⟨o, ho⟩ R.ok, q⟩
/-- {} -/
def tDNewS (P : Program) (w : World) : TE := fun _ H Q => ∀ p, H p = none → Q (.ref p) (upd H p (SeenO P w p []))
theorem pe_dnewS {pos : Pos} : PE X (.Dict [] [] pos) (tDNewS X.prog X.w) := ⟨fun pins s σ H Q I h =>
  wpAny_Dict_empty ⟨.ref s.heap.objs.size, upd H s.heap.objs.size (SeenO X.prog X.w s.heap.objs.size []), I.laid (t' := s.toks) (fun _ _ q => Heap.get?_push_of_some _ q) (Nat.le_refl _)
    (SeenH.ok ⟨beq_eq_false_iff_ne.mpr (Ne.symm (Nat.ne_of_lt I.big)), _, #[], 0, Heap.get?_push_size _ rfl, ⟨rfl, rfl, rfl⟩, rfl, rfl, List.nodup_nil⟩), rfl, h _ (I.hok.fresh (Nat.le_refl _))⟩⟩
end
end K19
end

section
set_option Elab.async false
set_option linter.all false
set_option maxRecDepth 100000
set_option maxHeartbeats 4000000
/-! R4: enumerate over a tuple, zip of a tuple and a list, sum and max of a tuple, repr of None. -/
namespace K19
open PySem L2 PyProof.Rows

def IteT (K : PySem.W.Frag) (a : Addr) : It :=
  ⟨fun i H => ∃ (xs : List V) (x : V), SqT K H a xs ∧ xs[i]? = some x, fun i H v H' => ∃ T x, v = .ref T ∧ H T = none ∧ H' = upd H T (.tup [.int (i : Nat), x]) ∧ ∀ xs, SqT K H a xs → xs[i]? = some x, fun i H => ∃ xs : List V, SqT K H a xs ∧ xs.length = i⟩
theorem turn_enumT {P : Program} {w : World} {K : PySem.W.Frag} {elts : List Expr} {kk : Nat} {tpos : Pos} (a e it : Addr) :
    Turn P w K (.Tuple elts kk tpos) (IteT K a) [e, it] e (fun i h => (∃ old, IsEnum h e it ((i : Nat) : Int) old) ∧ h.IsTupleIter it a i ∧ e ≠ it ∧ a ≠ it ∧ e ≠ a) where
  mem := by simp
  obj := fun i h st b hb => by
    obtain ⟨⟨old, he⟩, ⟨o, ho, hc, hd⟩, _⟩ := st
    have e' : b = e ∨ b = it := by simpa using hb
    rcases e' with z | z
    · rw [z]; exact ⟨_, he, fun v q => nomatch q⟩
    · rw [z]; exact ⟨o, ho, fun v q => by rw [hd] at q; cases q⟩
  keep := fun i h h' st k => let ⟨⟨old, he⟩, hi, hne⟩ := st; ⟨⟨old, k e (by simp) _ he⟩, hi.at fun o q => k it (by simp) o q, hne⟩
  item := by
    intro X hP hw hK hc i pins s σ H E I hf st hg
    subst hP hw hK
    obtain ⟨⟨old, he⟩, hit, hne, hai, hea⟩ := st
    obtain ⟨xs, x, hq, hx⟩ := hg
    obtain ⟨its, rv, p, hz⟩ := I.tuple hq
    have hl := rv.length
    have hlt : i < its.toArray.size := by
      have := (List.getElem?_eq_some_iff.mp hx).1
      simp; omega
    have hel : e < s.heap.objs.size := Heap.lt_size he
    have hil : it < s.heap.objs.size := by obtain ⟨_, q, _⟩ := hit; exact Heap.lt_size q
    have D := Draws.tuple (prog := X.prog) (w := X.w) (A := X.A.in1) (I.ok.hd hc) it a hai its.toArray
    have W := GoesN.enumFrom (elts := elts) (x1 := kk) (pos := tpos) 0 D e hne (by simp [hne, hea]) (by simp)
    refine W.goes i s _ E hlt ⟨⟨old, by rw [Int.zero_add]; exact he⟩, hit, p⟩ fun v h' tk hY st' hk htk => ?_
    obtain ⟨T, t, u, rfl, hT, hu, hTt⟩ := hY
    obtain ⟨⟨old', he'⟩, hit', hp'⟩ := st'
    obtain ⟨u', hu', ru⟩ := rv.get hx
    have eu : u' = u := by
      have q : its[i]? = some u := by simpa using hu
      rw [hu'] at q
      exact Option.some.inj q
    subst eu
    have new : ObjOk X.prog X.w (upd H T (.tup [.int (i : Nat), x])) h' T (.tup [.int (i : Nat), x]) :=
      ⟨by show 2 ≤ sizeLine; decide, [.int (0 + (i : Int)) t, u'], .cons ⟨t, by rw [Int.zero_add]⟩ (.cons ru .nil), hTt⟩
    have I1 : Inv X pins σ (upd H T (.tup [.int (i : Nat), x])) { s with heap := h', toks := tk } := I.turnedNew (ch := [e, it]) (fun b o hb q => hk b o hb q) hf hT new
    refine ⟨.ref T, _, I1, rfl, ⟨_, x, rfl, I.hok.fresh hT, rfl, fun ys hy => by rw [I.tuple_inj hy hq]; exact hx⟩, ⟨⟨old', by rw [Int.zero_add] at he'; exact he'⟩, hit', hne, hai, hea⟩, fun b hb => ?_⟩
    have hb' : b < s.heap.objs.size := by
      have e' : b = e ∨ b = it := by simpa using hb
      rcases e' with z | z
      · rw [z]; exact hel
      · rw [z]; exact hil
    rw [upd_ne (Nat.ne_of_lt (Nat.lt_of_lt_of_le hb' hT))]
    exact (hf b hb).1
  done := by
    intro X hP hw hK hc i pins s σ H E I hf st hg
    subst hP hw hK
    obtain ⟨⟨old, he⟩, hit, hne, hai, hea⟩ := st
    obtain ⟨xs, hq, hx⟩ := hg
    obtain ⟨its, rv, p, hz⟩ := I.tuple hq
    have hl := rv.length
    have hn : its.toArray.size = i := by simp; omega
    have D := Draws.tuple (prog := X.prog) (w := X.w) (A := X.A.in1) (I.ok.hd hc) it a hai its.toArray
    have W := GoesN.enumFrom (elts := elts) (x1 := kk) (pos := tpos) 0 D e hne (by simp [hne, hea]) (by simp)
    refine W.stops s _ E ⟨⟨old, by rw [Int.zero_add, hn]; exact he⟩, by rw [hn]; exact hit, p⟩ fun h' tk hk htk => ?_
    exact I.turnedL (t' := tk) (ch := [e, it]) (fun b o hb q => hk b o hb q) hf
  self := fun A i s Q E st h => let ⟨⟨_, he⟩, _⟩ := st; wpAny_pyIter_enum he h

namespace F
theorem typeCall_enumerate_1' (a : Value) : checkTypeCall "enumerate" ⟨[a], []⟩ = pure () := by kernel_rfl
end F
set_option maxHeartbeats 8000000 in
theorem meets_enumerate_newB1 {v : Value} {o : Obj} {H : Heap → Prop} (B : Begins v o H) :
    Meets (Builtin.«enumerate.__new__» ⟨[.type "enumerate", v], []⟩) (fun _ R s => H s.heap ∧
      R (.ok (.ret (.ref (s.heap.push o).objs.size))) { s with heap := (s.heap.push o).push { cls := .type "enumerate", data := .fields #[.none, .bool false, .ref s.heap.objs.size, rawInt 0, .none, .none] } }) :=
  .of_wp fun prog w A R s h => by
    obtain ⟨hp, g, d, tk, os⟩ := s; obtain ⟨h1, h⟩ := h
    have hsub := sub_enumerate
    have q1 : ∀ {A' : Around} {E : Value → Shared → Prop} {Q : Value → Shared → Prop}, Q (.ref hp.objs.size) ⟨hp.push o, g, d, tk, os⟩ → wpAny (model prog w) A' (pyIter v) Q E ⟨hp, g, d, tk, os⟩ :=
      fun q => B.iter prog w _ _ ⟨hp, g, d, tk, os⟩ _ h1 q
    wp_walk using q1
    refine wpAny_stack_any fun st => wpAny_pure ?_
    split
    · rename_i c _ _ _ _ _
      cases (c == Value.type "enumerate")
      · wp_walk using q1
        exact ⟨_, rfl, h⟩
      · wp_walk using q1
        exact ⟨_, rfl, h⟩
    · wp_walk using q1
      exact ⟨_, rfl, h⟩
section
variable {prog : Program} {w : World} {A : Around} {E : Value → Shared → Prop} {s : Shared}
theorem enum_begins1 {v : Value} {o : Obj} {H : Heap → Prop} {Q : Value → Shared → Prop} (B : Begins v o H) (h1 : H s.heap)
    (h : ∀ h', IsEnum h' (s.heap.objs.size + 1) s.heap.objs.size 0 .none → h'.get? s.heap.objs.size = some o → h'.objs.size = s.heap.objs.size + 2 →
      (∀ b o, s.heap.get? b = some o → h'.get? b = some o) → Q (.ref (s.heap.objs.size + 1)) { s with heap := h' }) :
    wpAny (model prog w) A (call (.type "enumerate") [v]) Q E s := by
  refine callType_new PySem.F.called_enumerate (by decide) (PySem.F.typeCall_enumerate_1 _) (PySem.F.newCall_enumerate_1 _) (fun obj => PySem.F.args_object_init_2 obj _) PySem.F.entry_enumerate_new
    (meets_enumerate_newB1 B) ⟨h1, ?_⟩
  have hz : (s.heap.push o).objs.size = s.heap.objs.size + 1 := Heap.size_push ..
  show _ ∧ _
  rw [hz]
  have he : IsEnum ((s.heap.push o).push { cls := .type "enumerate", data := .fields #[.none, .bool false, .ref s.heap.objs.size, rawInt 0, .none, .none] }) (s.heap.objs.size + 1) s.heap.objs.size 0 .none := by
    have := Heap.get?_push_size (s.heap.push o) (o := { cls := .type "enumerate", data := .fields #[.none, .bool false, .ref s.heap.objs.size, rawInt 0, .none, .none] }) rfl
    rw [hz] at this; exact this
  refine ⟨⟨_, he, rfl⟩, h _ he (Heap.get?_push_of_some _ (Heap.get?_push_size _ B.free)) (by rw [Heap.size_push, hz]) fun b o x => Heap.get?_push_of_some _ (Heap.get?_push_of_some _ x)⟩
end
def iEnumT (K : PySem.W.Frag) (ta : TA) : TI := fun σ H R => ta σ H fun vs H1 => ∃ a xs, vs = [.ref a] ∧ SqT K H1 a xs ∧ R (IteT K a) H1
theorem pi_enumT {X : Cx} {e : Expr} {ta : TA} {p pos tpos : Pos} {elts : List Expr} {kk : Nat} (hg : Gl X "enumerate") (hm : X.mg "enumerate" = none) (ha : PA X [e] ta) (hs : starEach [e] X.env = [(false, eval e X.env)] := by rfl) :
    PI X (.Tuple elts kk tpos) (.Call (.Name "enumerate" p) [e] [] pos) (iEnumT X.K ta) := by
  refine ⟨fun pins s σ H R I h => ?_⟩
  refine Call_ (ld_blt I hg hm boot_enumerate (PyProof.Rows.callWith_type1 (thn (ha.run pos pins s σ H _ I h) fun us s1 ⟨vs, H1, I1, r1, q1⟩ => ?_) hs rfl))
  obtain ⟨a, xs, ex, hq, q⟩ := q1
  subst ex
  cases r1 with
  | cons r rr =>
    cases rr
    cases r
    obtain ⟨its, rv, p', hz⟩ := I1.tuple hq
    have hal : a < s1.heap.objs.size := by obtain ⟨o, ho, _⟩ := id p'; exact Heap.lt_size ho
    refine enum_begins1 (begins_tuple a its.toArray) p' fun h' he hit hsz hk => wpAny_pyIter_enum he ?_
    have I2 : Inv X pins σ H1 { s1 with heap := h' } := I1.kept (t' := s1.toks) hk
    refine ⟨s1.heap.objs.size + 1, [s1.heap.objs.size + 1, s1.heap.objs.size], _, _, H1, rfl, I2, turn_enumT a (s1.heap.objs.size + 1) s1.heap.objs.size, ⟨⟨.none, he⟩, ⟨_, hit, rfl, rfl⟩, Nat.succ_ne_self _, Nat.ne_of_lt hal, Nat.ne_of_gt (Nat.lt_succ_of_lt hal)⟩, fun b hb => ?_, q⟩
    have e' : b = s1.heap.objs.size + 1 ∨ b = s1.heap.objs.size := by simpa using hb
    have hle : s1.heap.objs.size ≤ b := by
      rcases e' with z | z
      · rw [z]; exact Nat.le_add_right _ _
      · rw [z]; exact Nat.le_refl _
    exact I1.fpOk hle (I1.hok.fresh hle)
theorem walk_enumT {K : PySem.W.Frag} {a : Addr} {xs : List V} : Walk (IteT K a) xs.length (fun H => SqT K H a xs) (YPair (fun i => some (.int (i : Nat))) (fun i => xs[i]?)) := by
  refine ⟨fun i _ hi q => ⟨xs, xs[i], q, by simp [hi]⟩, fun _ q => ⟨xs, q, rfl⟩, fun i H v H' _ q y => ?_⟩
  obtain ⟨T, x, h1, h2, h3, h4⟩ := y
  exact ⟨T, .int (i : Nat), x, h1, h2, h3, rfl, h4 xs q⟩

/-! ### zip of a tuple and a list -/
def ItzM (K : PySem.W.Frag) (a b : Addr) : It :=
  ⟨fun i H => ∃ (xs ys : List V) (x y : V), SqT K H a xs ∧ SqL K H b ys ∧ xs[i]? = some x ∧ ys[i]? = some y,
    fun i H v H' => ∃ T x y, v = .ref T ∧ H T = none ∧ H' = upd H T (.tup [x, y]) ∧ (∀ xs, SqT K H a xs → xs[i]? = some x) ∧ ∀ ys, SqL K H b ys → ys[i]? = some y,
    fun i H => ∃ xs ys : List V, SqT K H a xs ∧ SqL K H b ys ∧ min xs.length ys.length = i⟩
theorem turn_zipM {P : Program} {w : World} {K : PySem.W.Frag} {elts : List Expr} {kk : Nat} {tpos : Pos} {a b z TI TO i1 i2 : Addr} (D : ZipSep2 z TI TO i1 i2 [i1, a] [i2, b]) :
    Turn P w K (.Tuple elts kk tpos) (ItzM K a b) [z, TI, TO, i1, i2] z (fun i h => IsZip h z TI TO .none ∧ IsTupOf2 h TI (.ref i1) (.ref i2) ∧ (∃ x y, IsTupOf2 h TO x y) ∧ h.IsTupleIter i1 a i ∧ h.IsListIter i2 b i ∧ a ≠ i1 ∧ b ≠ i2) where
  mem := by simp
  obj := fun i h st c hc => by
    obtain ⟨hz, hTI, ⟨x, y, hTO⟩, ⟨o1, e1, _, d1⟩, ⟨o2, e2, _, d2⟩, _⟩ := st
    have e' : c = z ∨ c = TI ∨ c = TO ∨ c = i1 ∨ c = i2 := by simpa using hc
    rcases e' with q | q | q | q | q
    · rw [q]; exact ⟨_, hz, fun v q => nomatch q⟩
    · rw [q]; exact ⟨_, hTI, fun v q => nomatch q⟩
    · rw [q]; exact ⟨_, hTO, fun v q => nomatch q⟩
    · rw [q]; exact ⟨o1, e1, fun v q => by rw [d1] at q; cases q⟩
    · rw [q]; exact ⟨o2, e2, fun v q => by rw [d2] at q; cases q⟩
  keep := fun i h h' st k => by
    obtain ⟨hz, hTI, ⟨x, y, hTO⟩, h1, h2, hr⟩ := st
    exact ⟨k z (by simp) _ hz, k TI (by simp) _ hTI, ⟨x, y, k TO (by simp) _ hTO⟩, h1.at fun o q => k i1 (by simp) o q, h2.at fun o q => k i2 (by simp) o q, hr⟩
  item := by
    intro X hP hw hK hc i pins s σ H E I hf st hg
    subst hP hw hK
    obtain ⟨hz, hTI, ⟨x0, y0, hTO⟩, h1, h2, n1, n2⟩ := st
    obtain ⟨xs, ys, x, y, hqx, hqy, hx, hy⟩ := hg
    obtain ⟨its, rv, p, _⟩ := I.tuple hqx
    obtain ⟨its2, rv2, p2, _⟩ := I.list hqy
    have l1 := rv.length
    have l2 := rv2.length
    have hlt : i < min its.toArray.size its2.toArray.size := by
      have q1 := (List.getElem?_eq_some_iff.mp hx).1
      have q2 := (List.getElem?_eq_some_iff.mp hy).1
      simp; omega
    have D1 := Draws.tuple (prog := X.prog) (w := X.w) (A := X.A.in1) (I.ok.hd hc) i1 a n1 its.toArray
    have D2 := Draws.list (prog := X.prog) (w := X.w) (A := X.A.in1) (I.ok.hd hc) i2 b n2 its2.toArray
    have W := GoesN.zip2 (elts := elts) (x1 := kk) (pos := tpos) D D1 D2
    refine W.goes i s _ E hlt ⟨hz, hTI, ⟨x0, y0, hTO⟩, ⟨h1, p⟩, ⟨h2, p2.isList⟩⟩ fun v h' tk hY st' hk htk => ?_
    obtain ⟨T, u, u2, rfl, hT, hu, hu2, hTt⟩ := hY
    obtain ⟨z', TI', TO', ⟨h1', _⟩, ⟨h2', _⟩⟩ := st'
    obtain ⟨u', hu', ru⟩ := rv.get hx
    obtain ⟨u2', hu2', ru2⟩ := rv2.get hy
    have eu : u' = u := by
      have q : its[i]? = some u := by simpa using hu
      rw [hu'] at q
      exact Option.some.inj q
    have eu2 : u2' = u2 := by
      have q : its2[i]? = some u2 := by simpa using hu2
      rw [hu2'] at q
      exact Option.some.inj q
    subst eu eu2
    have new : ObjOk X.prog X.w (upd H T (.tup [x, y])) h' T (.tup [x, y]) := ⟨by show 2 ≤ sizeLine; decide, [u', u2'], .cons ru (.cons ru2 .nil), hTt⟩
    have I1 : Inv X pins σ (upd H T (.tup [x, y])) { s with heap := h', toks := tk } := I.turnedNew (ch := [z, TI, TO, i1, i2]) (fun c o hb q => hk c o (fun m => hb (by
      have e' : c = z ∨ c = TO ∨ c = i1 ∨ c = i2 := by simpa using m
      rcases e' with q' | q' | q' | q' <;> simp [q'])) q) hf hT new
    refine ⟨.ref T, _, I1, rfl, ⟨_, x, y, rfl, I.hok.fresh hT, rfl, fun l hl => by rw [I.tuple_inj hl hqx]; exact hx, fun l hl => by rw [I.list_inj hl hqy]; exact hy⟩, ⟨z', TI', TO', h1', h2', n1, n2⟩, fun c hcm => ?_⟩
    have hlt : c < s.heap.objs.size := by
      have e' : c = z ∨ c = TI ∨ c = TO ∨ c = i1 ∨ c = i2 := by simpa using hcm
      rcases e' with q | q | q | q | q
      · rw [q]; exact Heap.lt_size hz
      · rw [q]; exact Heap.lt_size hTI
      · rw [q]; exact Heap.lt_size hTO
      · rw [q]; obtain ⟨_, e1, _⟩ := h1; exact Heap.lt_size e1
      · rw [q]; obtain ⟨_, e2, _⟩ := h2; exact Heap.lt_size e2
    rw [upd_ne (Nat.ne_of_lt (Nat.lt_of_lt_of_le hlt hT))]
    exact (hf c hcm).1
  done := by
    intro X hP hw hK hc i pins s σ H E I hf st hg
    subst hP hw hK
    obtain ⟨hz, hTI, ⟨x0, y0, hTO⟩, h1, h2, n1, n2⟩ := st
    obtain ⟨xs, ys, hqx, hqy, hend⟩ := hg
    obtain ⟨its, rv, p, _⟩ := I.tuple hqx
    obtain ⟨its2, rv2, p2, _⟩ := I.list hqy
    have l1 := rv.length
    have l2 := rv2.length
    have hn : min its.toArray.size its2.toArray.size = i := by simp; omega
    have D1 := Draws.tuple (prog := X.prog) (w := X.w) (A := X.A.in1) (I.ok.hd hc) i1 a n1 its.toArray
    have D2 := Draws.list (prog := X.prog) (w := X.w) (A := X.A.in1) (I.ok.hd hc) i2 b n2 its2.toArray
    have W := GoesN.zip2 (elts := elts) (x1 := kk) (pos := tpos) D D1 D2
    refine W.stops s _ E (hn ▸ ⟨hz, hTI, ⟨x0, y0, hTO⟩, ⟨h1, p⟩, ⟨h2, p2.isList⟩⟩) fun h' tk hk htk => ?_
    exact I.turnedL (t' := tk) (ch := [z, TI, TO, i1, i2]) (fun c o hb q => hk c o (fun m => hb (by
      have e' : c = z ∨ c = TO ∨ c = i1 ∨ c = i2 := by simpa using m
      rcases e' with q' | q' | q' | q' <;> simp [q'])) q) hf
  self := fun A i s Q E st h => wpAny_pyIter_zip st.1 h
def iZipM (K : PySem.W.Frag) (ta : TA) : TI := fun σ H R => ta σ H fun vs H1 => ∃ a b xs ys, vs = [.ref a, .ref b] ∧ SqT K H1 a xs ∧ SqL K H1 b ys ∧ R (ItzM K a b) H1
theorem pi_zipM {X : Cx} {e e2 : Expr} {ta : TA} {p pos tpos : Pos} {elts : List Expr} {kk : Nat} (hg : Gl X "zip") (hm : X.mg "zip" = none) (ha : PA X [e, e2] ta)
    (hs : starEach [e, e2] X.env = (false, eval e X.env) :: starEach [e2] X.env := by rfl) (hpl : (backTo pos (starEach [e2] X.env)).any (·.1) = false := by rfl) :
    PI X (.Tuple elts kk tpos) (.Call (.Name "zip" p) [e, e2] [] pos) (iZipM X.K ta) := by
  refine ⟨fun pins s σ H R I h => ?_⟩
  refine Call_ (ld_blt I hg hm PyProof.Rows.boot_zip (PyProof.Rows.callWith_type1 (thn (ha.run pos pins s σ H _ I h) fun us s1 ⟨vs, H1, I1, r1, q1⟩ => ?_) hs hpl))
  obtain ⟨a, b, xs, ys, ex, hqx, hqy, q⟩ := q1
  subst ex
  cases r1 with
  | cons r rr =>
    cases rr with
    | cons r' rr =>
      cases rr
      cases r
      cases r'
      obtain ⟨its, rv, p1, _⟩ := I1.tuple hqx
      obtain ⟨its2, rv2, p2, _⟩ := I1.list hqy
      have hal : a < s1.heap.objs.size := by obtain ⟨o, ho, _⟩ := id p1; exact Heap.lt_size ho
      have hbl : b < s1.heap.objs.size := by obtain ⟨o, ho, _⟩ := id p2.isList; exact Heap.lt_size ho
      have fresh5 : ∀ c, c ∈ [s1.heap.objs.size + 4, s1.heap.objs.size + 2, s1.heap.objs.size + 3, s1.heap.objs.size, s1.heap.objs.size + 1] → FpOk X pins H1 c := fun c hcm => by
        have e' : c = s1.heap.objs.size + 4 ∨ c = s1.heap.objs.size + 2 ∨ c = s1.heap.objs.size + 3 ∨ c = s1.heap.objs.size ∨ c = s1.heap.objs.size + 1 := by simpa using hcm
        have hle : s1.heap.objs.size ≤ c := by
          rcases e' with z | z | z | z | z
          · rw [z]; exact Nat.le_add_right _ _
          · rw [z]; exact Nat.le_add_right _ _
          · rw [z]; exact Nat.le_add_right _ _
          · rw [z]; exact Nat.le_refl _
          · rw [z]; exact Nat.le_add_right _ _
        exact I1.fpOk hle (I1.hok.fresh hle)
      refine zip_begins2 (begins_tuple a its.toArray) (begins_list b its2.toArray) p1 p2.isList fun h' hz hTI hTO h1 h2 hsz hk => wpAny_pyIter_zip hz ?_
      have I2 : Inv X pins σ H1 { s1 with heap := h' } := I1.kept (t' := s1.toks) hk
      exact ⟨s1.heap.objs.size + 4, [s1.heap.objs.size + 4, s1.heap.objs.size + 2, s1.heap.objs.size + 3, s1.heap.objs.size, s1.heap.objs.size + 1], _, _, H1, rfl, I2,
        turn_zipM (zip_sep2 (fun c hc => by rw [List.mem_singleton.mp hc]; exact hal) (fun c hc => by rw [List.mem_singleton.mp hc]; exact hbl)),
        ⟨hz, hTI, ⟨_, _, hTO⟩, ⟨_, h1, rfl, rfl⟩, ⟨_, h2, rfl, rfl⟩, Nat.ne_of_lt hal, Nat.ne_of_lt (Nat.lt_succ_of_lt hbl)⟩, fresh5, q⟩
theorem walk_zipM {K : PySem.W.Frag} {a b : Addr} {xs ys : List V} {n : Nat} (hn : n = min xs.length ys.length) : Walk (ItzM K a b) n (fun H => SqT K H a xs ∧ SqL K H b ys) (YPair (fun i => xs[i]?) (fun i => ys[i]?)) := by
  subst hn
  refine ⟨fun i _ hi q => ?_, fun _ q => ⟨xs, ys, q.1, q.2, rfl⟩, fun i H v H' _ q y => ?_⟩
  · have h1 : i < xs.length := by omega
    have h2 : i < ys.length := by omega
    exact ⟨xs, ys, xs[i], ys[i], q.1, q.2, by simp [h1], by simp [h2]⟩
  · obtain ⟨T, x, z, h1, h2, h3, h4, h5⟩ := y
    exact ⟨T, x, z, h1, h2, h3, h4 xs q.1, h5 ys q.2⟩

/-! ### sum and max of a tuple of ints; repr of None -/
section
variable {X : Cx}
def rSumT (K : PySem.W.Frag) : List V → Hp → VK → Prop := fun vs H Q => ∃ (a : Addr) (ns : List Int), vs = [V.ref a] ∧ SqT K H a (ns.map V.int) ∧ Q (.int ns.sum) H
theorem cr_sumT (hc : X.calm = true) : CallR X (.builtin "sum") (rSumT X.K) := by
  intro pins s σ H vs us Q I r h
  obtain ⟨a, ns, rfl, hs, q⟩ := h
  obtain ⟨its, rv, ht, _⟩ := I.tuple hs
  rw [Vals.ref1 r]
  have hi := rv.ints
  obtain ⟨xs, e⟩ := hi.allInts.items
  have hn : numsOf (intItems xs).toList = ns := by rw [← e]; exact hi.numsOf
  rw [nums_intItems] at hn
  have ht' : s.heap.IsTuple a (intItems xs) := e ▸ ht
  refine PySem.W.ktm_sumG (I.ok.hd hc) ht' fun h' tk t' hk => ?_
  rw [preSum_eq, List.take_of_length_le (by simp), hn]
  exact ⟨.int _, H, I.kept hk, ⟨_, rfl⟩, q⟩
theorem ints_reads {h : Heap} : ∀ {ns : List Int} {us : List Value}, Vals (ns.map V.int) us → ReadsAll h us (ns.map PyData.int) []
  | [], _, .nil => .nil
  | n :: ns, _, .cons ⟨t, e⟩ q => by
    rw [e]
    exact ReadsAll.cons (as := []) (bs := []) (Reads.int n t) (ints_reads q)
theorem depth_ints : ∀ ns : List Int, PyData.depthAll (ns.map PyData.int) ≤ 1
  | [] => by simp [PyData.depthAll]
  | n :: ns => by
    have := depth_ints ns
    simp only [List.map_cons, PyData.depthAll, PyData.depth]
    omega
def rMaxT (K : PySem.W.Frag) : List V → Hp → VK → Prop := fun vs H Q => ∃ (a : Addr) (n : Int) (ns : List Int), vs = [V.ref a] ∧ SqT K H a ((n :: ns).map V.int) ∧ Q (.int (ns.foldl max n)) H
theorem cr_maxT (hc : X.calm = true) (hu : X.A.units + 2 < cLine) : CallR X (.builtin "max") (rMaxT X.K) := by
  intro pins s σ H vs us Q I r h
  obtain ⟨a, n, ns, rfl, hs, q⟩ := h
  obtain ⟨its, rv, ht, _⟩ := I.tuple hs
  rw [Vals.ref1 r]
  have ht' : s.heap.IsTuple a its.toArray := ht
  have hr := ints_reads (h := s.heap) rv
  refine PySem.W.max_tuple_data (x := .int n) (xs := ns.map PyData.int) (as := []) (I.ok.hd hc) ht' (by simpa using hr) ⟨fun x hx y hy => ?_, fun x hx => ?_⟩ ?_ fun i v h' tk bs hv hr' hk => ?_
  · rw [← List.map_cons (f := PyData.int)] at hx hy
    obtain ⟨i, _, rfl⟩ := List.mem_map.mp hx
    obtain ⟨j, _, rfl⟩ := List.mem_map.mp hy
    simp only [PySem.W.alike]
  · rw [← List.map_cons (f := PyData.int)] at hx
    obtain ⟨i, _, rfl⟩ := List.mem_map.mp hx
    exact fun e => nomatch e
  · have := depth_ints (n :: ns)
    rw [List.map_cons] at this
    omega
  · rw [PySem.W.maxD_ints] at hr'
    cases hr' with
    | int i t => exact ⟨.int _, H, I.kept hk, ⟨t, rfl⟩, q⟩
theorem call_repr_none : CallR X (.builtin "repr") (fun xs H Q => xs = [.non] ∧ Q (.str "None") H) := by
  intro pins s σ H xs us Q I r h
  obtain ⟨rfl, q⟩ := h
  cases r with
  | cons r rr =>
    cases rr
    obtain rfl : _ = Value.none := r
    exact PySem.P.repr_of_none ⟨.str _, H, I.tok _, ⟨_, rfl⟩, q⟩
end
end K19
end

section
set_option Elab.async false
set_option linter.all false
set_option maxRecDepth 100000
set_option maxHeartbeats 4000000
/-! P0: the places of the defs, their names by slots, what the top leaves. -/
namespace K19
open PySem L2
def topS (i : Nat) : Stmt := PySem.Challenge.pw_staysdeep_k19_whole_courts_of_five_place.main.body.getD i (.Pass ⟨0, 0, 0, 0⟩)
abbrev s_is_integer : Stmt := topS 8
abbrev n_is_integer : List Str := ["value"]
theorem sc_is_integer : FnScope n_is_integer ["value"] (defScope s_is_integer) := ⟨rfl, rfl, rfl, by decide +kernel, rfl, by decide +kernel, by decide +kernel⟩
abbrev s_is_below : Stmt := topS 9
abbrev n_is_below : List Str := ["value", "bound"]
theorem sc_is_below : FnScope n_is_below ["value", "bound"] (defScope s_is_below) := ⟨rfl, rfl, rfl, by decide +kernel, rfl, by decide +kernel, by decide +kernel⟩
abbrev s_is_text : Stmt := topS 10
abbrev n_is_text : List Str := ["value"]
theorem sc_is_text : FnScope n_is_text ["value"] (defScope s_is_text) := ⟨rfl, rfl, rfl, by decide +kernel, rfl, by decide +kernel, by decide +kernel⟩
abbrev s_is_sequence : Stmt := topS 11
abbrev n_is_sequence : List Str := ["value"]
theorem sc_is_sequence : FnScope n_is_sequence ["value"] (defScope s_is_sequence) := ⟨rfl, rfl, rfl, by decide +kernel, rfl, by decide +kernel, by decide +kernel⟩
abbrev s_is_pair : Stmt := topS 12
abbrev n_is_pair : List Str := ["value"]
theorem sc_is_pair : FnScope n_is_pair ["value"] (defScope s_is_pair) := ⟨rfl, rfl, rfl, by decide +kernel, rfl, by decide +kernel, by decide +kernel⟩
abbrev s_is_name : Stmt := topS 13
abbrev n_is_name : List Str := ["value", "sign"]
theorem sc_is_name : FnScope n_is_name ["value"] (defScope s_is_name) := ⟨rfl, rfl, rfl, by decide +kernel, rfl, by decide +kernel, by decide +kernel⟩
abbrev s_need_number : Stmt := topS 14
abbrev n_need_number : List Str := ["value", "bound", "word"]
theorem sc_need_number : FnScope n_need_number ["value", "bound", "word"] (defScope s_need_number) := ⟨rfl, rfl, rfl, by decide +kernel, rfl, by decide +kernel, by decide +kernel⟩
abbrev s_lot_of : Stmt := topS 15
abbrev n_lot_of : List Str := ["things"]
theorem sc_lot_of : FnScope n_lot_of ["things"] (defScope s_lot_of) := ⟨rfl, rfl, rfl, by decide +kernel, rfl, by decide +kernel, by decide +kernel⟩
abbrev s_Yard__init : Stmt := inClass (topS 19) 0
abbrev n_Yard__init : List Str := ["self", "heights", "at", "height"]
theorem sc_Yard__init : FnScope n_Yard__init ["self", "heights"] (defScope s_Yard__init) := ⟨rfl, rfl, rfl, by decide +kernel, rfl, by decide +kernel, by decide +kernel⟩
abbrev s_Yard__eq : Stmt := inClass (topS 19) 1
abbrev n_Yard__eq : List Str := ["self", "other"]
theorem sc_Yard__eq : FnScope n_Yard__eq ["self", "other"] (defScope s_Yard__eq) := ⟨rfl, rfl, rfl, by decide +kernel, rfl, by decide +kernel, by decide +kernel⟩
abbrev s_places : Stmt := topS 20
abbrev n_places : List Str := ["yard"]
theorem sc_places : FnScope n_places ["yard"] (defScope s_places) := ⟨rfl, rfl, rfl, by decide +kernel, rfl, by decide +kernel, by decide +kernel⟩
abbrev s_layer : Stmt := topS 21
abbrev n_layer : List Str := ["yard", "cover", "stack", "height"]
theorem sc_layer : FnScope n_layer ["yard", "cover"] (defScope s_layer) := ⟨rfl, rfl, rfl, by decide +kernel, rfl, by decide +kernel, by decide +kernel⟩
abbrev s_is_event : Stmt := topS 23
abbrev n_is_event : List Str := ["value"]
theorem sc_is_event : FnScope n_is_event ["value"] (defScope s_is_event) := ⟨rfl, rfl, rfl, by decide +kernel, rfl, by decide +kernel, by decide +kernel⟩
abbrev s_event_fault : Stmt := topS 24
abbrev n_event_fault : List Str := ["events", "most", "came", "gone", "at", "event", "word", "box", "full"]
theorem sc_event_fault : FnScope n_event_fault ["events", "most"] (defScope s_event_fault) := ⟨rfl, rfl, rfl, by decide +kernel, rfl, by decide +kernel, by decide +kernel⟩
abbrev s_need_timetable : Stmt := topS 25
abbrev n_need_timetable : List Str := ["yard", "value", "fault"]
theorem sc_need_timetable : FnScope n_need_timetable ["yard", "value"] (defScope s_need_timetable) := ⟨rfl, rfl, rfl, by decide +kernel, rfl, by decide +kernel, by decide +kernel⟩
abbrev s_need_state : Stmt := topS 26
abbrev n_need_state : List Str := ["timetable", "state"]
theorem sc_need_state : FnScope n_need_state ["timetable", "state"] (defScope s_need_state) := ⟨rfl, rfl, rfl, by decide +kernel, rfl, by decide +kernel, by decide +kernel⟩
abbrev s_state_boxes : Stmt := topS 27
abbrev n_state_boxes : List Str := ["timetable", "state", "there", "word", "box", "here"]
theorem sc_state_boxes : FnScope n_state_boxes ["timetable", "state"] (defScope s_state_boxes) := ⟨rfl, rfl, rfl, by decide +kernel, rfl, by decide +kernel, by decide +kernel⟩
abbrev s_free_counts : Stmt := topS 28
abbrev n_free_counts : List Str := ["yard", "timetable", "counts", "word", "box"]
theorem sc_free_counts : FnScope n_free_counts ["yard", "timetable"] (defScope s_free_counts) := ⟨rfl, rfl, rfl, by decide +kernel, rfl, by decide +kernel, by decide +kernel⟩
abbrev s_presence_table : Stmt := topS 29
abbrev n_presence_table : List Str := ["timetable", "table", "at", "word", "box"]
theorem sc_presence_table : FnScope n_presence_table ["timetable"] (defScope s_presence_table) := ⟨rfl, rfl, rfl, by decide +kernel, rfl, by decide +kernel, by decide +kernel⟩
abbrev s_owed : Stmt := topS 31
abbrev n_owed : List Str := ["yard", "cover", "height"]
theorem sc_owed : FnScope n_owed ["yard", "cover"] (defScope s_owed) := ⟨rfl, rfl, rfl, by decide +kernel, rfl, by decide +kernel, by decide +kernel⟩
abbrev s_yard_covers : Stmt := topS 32
abbrev n_yard_covers : List Str := ["yard"]
theorem sc_yard_covers : FnScope n_yard_covers ["yard"] (defScope s_yard_covers) := ⟨rfl, rfl, rfl, by decide +kernel, rfl, by decide +kernel, by decide +kernel⟩
abbrev s_rows_below : Stmt := topS 33
abbrev n_rows_below : List Str := ["counts", "cover", "found", "first", "state", "free"]
theorem sc_rows_below : FnScope n_rows_below ["counts", "cover"] (defScope s_rows_below) := ⟨rfl, rfl, rfl, by decide +kernel, rfl, by decide +kernel, by decide +kernel⟩
abbrev s_staying : Stmt := topS 34
abbrev n_staying : List Str := ["table", "stretch", "first", "last", "box", "come", "leave"]
theorem sc_staying : FnScope n_staying ["table", "stretch"] (defScope s_staying) := ⟨rfl, rfl, rfl, by decide +kernel, rfl, by decide +kernel, by decide +kernel⟩
abbrev s_Dealt__init : Stmt := inClass (topS 36) 0
abbrev n_Dealt__init : List Str := ["self", "table"]
theorem sc_Dealt__init : FnScope n_Dealt__init ["self", "table"] (defScope s_Dealt__init) := ⟨rfl, rfl, rfl, by decide +kernel, rfl, by decide +kernel, by decide +kernel⟩
abbrev s_Dealt__eq : Stmt := inClass (topS 36) 1
abbrev n_Dealt__eq : List Str := ["self", "other"]
theorem sc_Dealt__eq : FnScope n_Dealt__eq ["self", "other"] (defScope s_Dealt__eq) := ⟨rfl, rfl, rfl, by decide +kernel, rfl, by decide +kernel, by decide +kernel⟩
abbrev s_Short__init : Stmt := inClass (topS 37) 0
abbrev n_Short__init : List Str := ["self", "cover", "stretch", "stayers"]
theorem sc_Short__init : FnScope n_Short__init ["self", "cover", "stretch", "stayers"] (defScope s_Short__init) := ⟨rfl, rfl, rfl, by decide +kernel, rfl, by decide +kernel, by decide +kernel⟩
abbrev s_Short__eq : Stmt := inClass (topS 37) 1
abbrev n_Short__eq : List Str := ["self", "other"]
theorem sc_Short__eq : FnScope n_Short__eq ["self", "other"] (defScope s_Short__eq) := ⟨rfl, rfl, rfl, by decide +kernel, rfl, by decide +kernel, by decide +kernel⟩
abbrev s_shorts : Stmt := topS 38
abbrev n_shorts : List Str := ["yard", "timetable", "counts", "table", "found", "cover", "stretch", "lot"]
theorem sc_shorts : FnScope n_shorts ["yard", "timetable"] (defScope s_shorts) := ⟨rfl, rfl, rfl, by decide +kernel, rfl, by decide +kernel, by decide +kernel⟩
abbrev s_stretch_from : Stmt := topS 39
abbrev n_stretch_from : List Str := ["counts", "state", "last"]
theorem sc_stretch_from : FnScope n_stretch_from ["counts", "state"] (defScope s_stretch_from) := ⟨rfl, rfl, rfl, by decide +kernel, rfl, by decide +kernel, by decide +kernel⟩
abbrev s_latest_leavers : Stmt := topS 40
abbrev n_latest_leavers : List Str := ["timetable", "table", "found", "state", "taken", "rows", "place", "stretch", "box", "leave"]
theorem sc_latest_leavers : FnScope n_latest_leavers ["timetable", "table", "found", "state"] (defScope s_latest_leavers) := ⟨rfl, rfl, rfl, by decide +kernel, rfl, by decide +kernel, by decide +kernel⟩
abbrev s_rule_table : Stmt := topS 41
abbrev n_rule_table : List Str := ["yard", "timetable", "counts", "table", "found", "state", "fresh", "stretch", "leavers", "place", "box"]
theorem sc_rule_table : FnScope n_rule_table ["yard", "timetable"] (defScope s_rule_table) := ⟨rfl, rfl, rfl, by decide +kernel, rfl, by decide +kernel, by decide +kernel⟩
abbrev s_court : Stmt := topS 42
abbrev n_court : List Str := ["yard", "timetable", "found"]
theorem sc_court : FnScope n_court ["yard", "timetable"] (defScope s_court) := ⟨rfl, rfl, rfl, by decide +kernel, rfl, by decide +kernel, by decide +kernel⟩
abbrev s_stuck_event : Stmt := topS 43
abbrev n_stuck_event : List Str := ["yard", "timetable", "counts", "table", "found", "cover", "first", "last", "leaves", "latest", "come", "leave"]
theorem sc_stuck_event : FnScope n_stuck_event ["yard", "timetable"] (defScope s_stuck_event) := ⟨rfl, rfl, rfl, by decide +kernel, rfl, by decide +kernel, by decide +kernel⟩
abbrev s_law_deal : Stmt := topS 45
abbrev n_law_deal : List Str := ["_law_script", "_law_base", "_law_cell", "_law_cells", "_law_blend"]
theorem sc_law_deal : FnScope n_law_deal ["_law_script", "_law_base"] (defScope s_law_deal) := ⟨rfl, rfl, rfl, by decide +kernel, rfl, by decide +kernel, by decide +kernel⟩
abbrev s_law_draw : Stmt := topS 46
abbrev n_law_draw : List Str := ["_law_deal_here", "_law_bound", "_law_rest"]
theorem sc_law_draw : FnScope n_law_draw ["_law_deal_here", "_law_bound"] (defScope s_law_draw) := ⟨rfl, rfl, rfl, by decide +kernel, rfl, by decide +kernel, by decide +kernel⟩
abbrev s_law_pick : Stmt := topS 47
abbrev n_law_pick : List Str := ["_law_deal_here", "_law_some"]
theorem sc_law_pick : FnScope n_law_pick ["_law_deal_here", "_law_some"] (defScope s_law_pick) := ⟨rfl, rfl, rfl, by decide +kernel, rfl, by decide +kernel, by decide +kernel⟩
abbrev s_law_turn : Stmt := topS 48
abbrev n_law_turn : List Str := ["_law_deal_here", "_law_size", "_law_found", "_law_at"]
theorem sc_law_turn : FnScope n_law_turn ["_law_deal_here", "_law_size"] (defScope s_law_turn) := ⟨rfl, rfl, rfl, by decide +kernel, rfl, by decide +kernel, by decide +kernel⟩
abbrev s_law_names : Stmt := topS 49
abbrev n_law_names : List Str := ["_law_deal_here", "_law_many", "_law_letters", "_law_word", "_law_at", "_law_length", "_law_loose", "_law_place", "_law_first", "_law_second", "_law_step", "_law_other", "_law_found", "_law_signs", "_law_last", "_law_turn_here"]
theorem sc_law_names : FnScope n_law_names ["_law_deal_here", "_law_many"] (defScope s_law_names) := ⟨rfl, rfl, rfl, by decide +kernel, rfl, by decide +kernel, by decide +kernel⟩
abbrev s_law_events : Stmt := topS 50
abbrev n_law_events : List Str := ["_law_deal_here", "_law_names_here", "_law_most", "_law_many", "_law_widest", "_law_there", "_law_events_here", "_law_fresh", "_law_style", "_law_narrow", "_law_goal", "_law_turn_here", "_law_free_here", "_law_box", "_law_last", "_law_at"]
theorem sc_law_events : FnScope n_law_events ["_law_deal_here", "_law_names_here", "_law_most", "_law_many", "_law_widest"] (defScope s_law_events) := ⟨rfl, rfl, rfl, by decide +kernel, rfl, by decide +kernel, by decide +kernel⟩
abbrev s_law_book : Stmt := topS 51
abbrev n_law_book : List Str := ["_law_events_here", "_law_book_here", "_law_at", "_law_word", "_law_box"]
theorem sc_law_book : FnScope n_law_book ["_law_events_here"] (defScope s_law_book) := ⟨rfl, rfl, rfl, by decide +kernel, rfl, by decide +kernel, by decide +kernel⟩
abbrev s_law_free : Stmt := topS 52
abbrev n_law_free : List Str := ["_law_heights", "_law_events_here", "_law_counts", "_law_word", "_law_box"]
theorem sc_law_free : FnScope n_law_free ["_law_heights", "_law_events_here"] (defScope s_law_free) := ⟨rfl, rfl, rfl, by decide +kernel, rfl, by decide +kernel, by decide +kernel⟩
abbrev s_law_stay : Stmt := topS 53
abbrev n_law_stay : List Str := ["_law_book_here", "_law_stretch", "_law_box"]
theorem sc_law_stay : FnScope n_law_stay ["_law_book_here", "_law_stretch"] (defScope s_law_stay) := ⟨rfl, rfl, rfl, by decide +kernel, rfl, by decide +kernel, by decide +kernel⟩
abbrev s_law_spread : Stmt := topS 54
abbrev n_law_spread : List Str := ["_law_heights", "_law_starts", "_law_found", "_law_seen", "_law_standing", "_law_at", "_law_one", "_law_other", "_law_row"]
theorem sc_law_spread : FnScope n_law_spread ["_law_heights", "_law_starts"] (defScope s_law_spread) := ⟨rfl, rfl, rfl, by decide +kernel, rfl, by decide +kernel, by decide +kernel⟩
abbrev s_law_after : Stmt := topS 55
abbrev n_law_after : List Str := ["_law_heights", "_law_standings", "_law_event", "_law_found", "_law_seen", "_law_standing", "_law_at", "_law_row", "_law_fits"]
theorem sc_law_after : FnScope n_law_after ["_law_heights", "_law_standings", "_law_event"] (defScope s_law_after) := ⟨rfl, rfl, rfl, by decide +kernel, rfl, by decide +kernel, by decide +kernel⟩
abbrev s_law_tried : Stmt := topS 56
abbrev n_law_tried : List Str := ["_law_heights", "_law_events_here", "_law_standings", "_law_at", "_law_height"]
theorem sc_law_tried : FnScope n_law_tried ["_law_heights", "_law_events_here"] (defScope s_law_tried) := ⟨rfl, rfl, rfl, by decide +kernel, rfl, by decide +kernel, by decide +kernel⟩
abbrev s_law_short : Stmt := topS 57
abbrev n_law_short : List Str := ["_law_heights", "_law_events_here", "_law_paper", "_law_first", "_law_last", "_law_counts", "_law_due", "_law_state", "_law_height"]
theorem sc_law_short : FnScope n_law_short ["_law_heights", "_law_events_here", "_law_paper"] (defScope s_law_short) := ⟨rfl, rfl, rfl, by decide +kernel, rfl, by decide +kernel, by decide +kernel⟩
abbrev s_law : Stmt := topS 58
abbrev n_law : List Str := ["_law_script", "_law_deal_here", "_law_menu", "_law_heights", "_law_yard", "_law_many", "_law_events_here", "_law_stuck", "_law_paper"]
theorem sc_law : FnScope n_law ["_law_script"] (defScope s_law) := ⟨rfl, rfl, rfl, by decide +kernel, rfl, by decide +kernel, by decide +kernel⟩
/-- built-in names that nobody has taken; the constants of the top -/
structure Bl (mg : Str → Option Value) : Prop where
  b_len : mg "len" = none
  b_isinstance : mg "isinstance" = none
  b_all : mg "all" = none
  b_sorted : mg "sorted" = none
  b_set : mg "set" = none
  b_tuple : mg "tuple" = none
  b_list : mg "list" = none
  b_sum : mg "sum" = none
  b_max : mg "max" = none
  b_min : mg "min" = none
  b_enumerate : mg "enumerate" = none
  b_range : mg "range" = none
  b_zip : mg "zip" = none
  b_int : mg "int" = none
  b_bool : mg "bool" = none
  b_str : mg "str" = none
  b_abs : mg "abs" = none
  b_repr : mg "repr" = none
  gLETTERS : ∃ t, mg "LETTERS" = some (.str "abcdefghijklmnopqrstuvwxyz" t)
  gLONGEST : ∃ t, mg "LONGEST" = some (.int 8 t)
  gFEWEST : ∃ t, mg "FEWEST" = some (.int 3 t)
  gMOST : ∃ t, mg "MOST" = some (.int 12 t)
/-- a def of the top keeps its promise -/
structure Cal (P : Program) (w : World) (K : PySem.W.Frag) (mg : Str → Option Value) (base : Heap) (k : Nat) (x : Str) (ps : List Str) (sp : Sp) : Prop where
  ex : ∃ (f : Addr) (fd : FuncData), mg x = some (.ref f) ∧ PySem.W.keepIn K (.ref f) = true ∧ Binds K fd ps [] ∧ FnOk P w K mg base CX0 k f fd ps sp
/-- a class of the top, its __init__ keeps its promise -/
structure MkC (P : Program) (w : World) (K : PySem.W.Frag) (mg : Str → Option Value) (base : Heap) (k : Nat) (x : Str) (C : Addr) (ps : List Str) (sp : Sp) : Prop where
  g : mg x = some (.ref C)
  cl : Cls K C
  ex : ∃ (f : Addr) (fd : FuncData), Mk K C f ∧ Binds K fd ps [] ∧ FnOk P w K mg base CX0 k f fd ps sp
section
variable {X : Cx} {k : Nat} {ps : List Str} {sp : Sp} {E : XK} {x : Str} {e : Expr} {es : List Expr} {t : TA} {p pos : Pos} {C : Addr}
theorem pe_cal (c : Cal X.prog X.w X.K X.mg X.base k x ps sp) (hr : Room k X.A) (hg : Gl X x) (ha : PA X (e :: es) t)
    (hdb : (x == ("__debug__" : Str)) = false := by decide) (he : starEach (e :: es) X.env = (false, eval e X.env) :: starEach es X.env := by rfl) (hpl : (backTo pos (starEach es X.env)).any (·.1) = false := by rfl) :
    PE X (.Call (.Name x p) (e :: es) [] pos) (tCall sp [] E0 t) := by
  obtain ⟨f, fd, g, kp, b, G⟩ := c.ex
  exact pe_call G hr hg g kp b .nil pass0 ha hdb he hpl
theorem pe_mk (c : MkC X.prog X.w X.K X.mg X.base k x C ps sp) (hr : Room (k + 1) X.A) (hg : Gl X x) (ha : PA X (e :: es) t)
    (hdb : (x == ("__debug__" : Str)) = false := by decide) (he : starEach (e :: es) X.env = (false, eval e X.env) :: starEach es X.env := by rfl) (hpl : (backTo pos (starEach es X.env)).any (·.1) = false := by rfl) :
    PE X (.Call (.Name x p) (e :: es) [] pos) (tMake C sp [] E0 t) := by
  obtain ⟨f, fd, M, b, G⟩ := c.ex
  exact pe_make M G hr hg c.g b .nil pass0 ha hdb he hpl
end
section
variable {X : Cx} {K : PySem.W.Frag}
theorem ixK_tup (hK : X.K = K) : IxR X (rIxT K) := hK ▸ ix_tup
theorem ixK_list (hK : X.K = K) : IxR X (rIxL K) := hK ▸ ix_list
theorem pe_fldK {e : Expr} {f : Str} {pos : Pos} {ta : TE} (hK : X.K = K) (he : PE X e ta) (hb : attributeBase e f X.env (eval e X.env) = eval e X.env) : PE X (.Attribute e f pos) (tFld K ta f) := hK ▸ pe_fld he hb
end
/-- a stop on the way: what holds behind, whichever way was gone -/
def tCut (t : TE) : TE := fun σ H Q => ∃ R : VK, t σ H R ∧ ∀ v H', R v H' → Q v H'
def sCut (t : TS) : TS := fun D σ H => ∃ R : L2.St → Hp → Prop, t { D with nx := R } σ H ∧ ∀ σ' H', R σ' H' → D.nx σ' H'
theorem pe_cut {X : Cx} {e : Expr} {t : TE} (he : PE X e t) : PE X e (tCut t) :=
  ⟨fun pins s σ H Q I ⟨R, h, k⟩ => thn (he.run pins s σ H R I h) fun _ _ ⟨v, H', I', r, q⟩ => ⟨v, H', I', r, k v H' q⟩⟩
theorem ps_cut {X : Cx} {st : Stmt} {t : TS} (hs : PS X st t) : PS X st (sCut t) :=
  ⟨fun pins s σ H D I ⟨R, h, k⟩ => thn (hs.run pins s σ H { D with nx := R } I h) fun f _ q => by
    cases f with
    | next => exact let ⟨σ', H', I', r⟩ := q; ⟨σ', H', I', k σ' H' r⟩
    | brk => exact q
    | cont => exact q
    | ret u => exact q⟩
section
variable {H H' H2 : Hp} {K : PySem.W.Frag}
theorem same_refl : Same H H := fun _ _ e => e
theorem same_new {p : Addr} {o : HO} (h : H p = none) : Same H (upd H p o) := fun b x e => by
  rw [upd_ne (ne_of_none e h)]
  exact e
theorem tex (s : Same H H') : TupEx K H H' := tupEx_same s
theorem blT {p : Prop} [Decidable p] (h : p) : V.bl (decide p) = V.bl true := by rw [decide_eq_true h]
theorem blF {p : Prop} [Decidable p] (h : ¬ p) : V.bl (decide p) = V.bl false := by rw [decide_eq_false h]
theorem qT {p : Prop} [Decidable p] {Q : VK} (h : p) (k : Q (.bl true) H) : Q (.bl (decide p)) H := by
  rw [decide_eq_true h]
  exact k
theorem qF {p : Prop} [Decidable p] {Q : VK} (h : ¬ p) (k : Q (.bl false) H) : Q (.bl (decide p)) H := by
  rw [decide_eq_false h]
  exact k
end
end K19
end

section
set_option Elab.async false
set_option linter.all false
set_option maxRecDepth 100000
set_option maxHeartbeats 4000000
/-! W1: words. -/
namespace K19
open PySem L2
/-- where the three classes stand -/
structure Za where
  Y : Addr
  D : Addr
  S : Addr
section
variable {P : Program} {w : World} {K : PySem.W.Frag} {mg : Str → Option Value} {base : Heap} {Z : Za}
theorem ty_tup {H : Hp} {a : Addr} {xs : List V} (h : SqT K H a xs) : TyX K H (.ref a) (.type "tuple") := by
  rcases h with (h | ⟨o, h⟩) | ⟨o, its, n, hk, hc, hr⟩
  · exact .base (.tup h)
  · exact .fTuple h
  · exact .kTuple hk hc
def sp_is_integer (K : PySem.W.Frag) (Z : Za) : Sp := fun vs H Q _ => ∃ i, vs = [.int i] ∧ Q (.bl true) H
theorem c_is_integer {f : Addr} {fd : FuncData} (F : Fun K "is_integer" "is_integer" s_is_integer f fd) (g : mg "is_integer" = some (.ref f)) (T : Bl mg)   : Cal P w K mg base 1 "is_integer" ["value"] (sp_is_integer K Z) := by
  refine ⟨f, fd, g, F.kp, F.binds (ps := ["value"]) fun _ _ _ _ _ _ us hl => match us, hl with | [_], _ => rfl, F.ok sc_is_integer (fun vs H Q E h => ?_) (fun cdv A outer s H vs Q E hr h => ?_)⟩
  · obtain ⟨i, rfl, _⟩ := h
    rfl
  · obtain ⟨i, rfl, k⟩ := h
    refine ⟨_, (pss_one (ps_ret (pe_and (pe_callB call_isi (by rfl) T.b_isinstance (by decide +kernel) (pa_cons (pv 0) (pa_cons (pe_bltn (v := .ty "int") (by rfl) T.b_int (by decide +kernel) rfl) pa_nil))) (pe_one (pe_not (pe_callB call_isi (by rfl) T.b_isinstance (by decide +kernel) (pa_cons (pv 0) (pa_cons (pe_bltn (v := .ty "bool") (by rfl) T.b_bool (by decide +kernel) rfl) pa_nil)))))))), ?_⟩
    refine ⟨_, rfl, _, _, _, _, true, rfl, .ty _, .base (.int _), kit_ty (by decide +kernel), true, rfl, ?_⟩
    refine iteT ⟨_, rfl, _, _, _, _, false, rfl, .ty _, .base (.int _), kit_ty (by decide +kernel), false, rfl, k⟩
def sp_is_below (K : PySem.W.Frag) (Z : Za) : Sp := fun vs H Q _ => ∃ i b, vs = [.int i, .int b] ∧ 0 ≤ i ∧ i < b ∧ Q (.bl true) H
theorem c_is_below {f : Addr} {fd : FuncData} (F : Fun K "is_below" "is_below" s_is_below f fd) (g : mg "is_below" = some (.ref f)) (T : Bl mg) (c_is_integer : Cal P w K mg base 1 "is_integer" ["value"] (sp_is_integer K Z))  : Cal P w K mg base 2 "is_below" ["value", "bound"] (sp_is_below K Z) := by
  refine ⟨f, fd, g, F.kp, F.binds (ps := ["value", "bound"]) fun _ _ _ _ _ _ us hl => match us, hl with | [_, _], _ => rfl, F.ok sc_is_below (fun vs H Q E h => ?_) (fun cdv A outer s H vs Q E hr h => ?_)⟩
  · obtain ⟨i, b, rfl, _⟩ := h
    rfl
  · obtain ⟨i, b, rfl, h0, h1, k⟩ := h
    refine ⟨_, (pss_one (ps_ret (pe_and (pe_cal c_is_integer (hr.mono (by decide)) (by rfl) (pa_cons (pv 0) pa_nil)) (pe_one (pe_chain op_le op_lt pe_int (pv 0) (pv 1)))))), ?_⟩
    refine ⟨_, rfl, i, rfl, true, rfl, iteT ?_⟩
    refine ⟨_, rfl, _, _, rfl, rfl, true, blT h0, iteT ?_⟩
    exact ⟨_, rfl, _, _, rfl, rfl, qT h1 k⟩
def sp_is_text (K : PySem.W.Frag) (Z : Za) : Sp := fun vs H Q _ => ∃ x, vs = [.str x] ∧ Q (.bl true) H
theorem c_is_text {f : Addr} {fd : FuncData} (F : Fun K "is_text" "is_text" s_is_text f fd) (g : mg "is_text" = some (.ref f)) (T : Bl mg)   : Cal P w K mg base 1 "is_text" ["value"] (sp_is_text K Z) := by
  refine ⟨f, fd, g, F.kp, F.binds (ps := ["value"]) fun _ _ _ _ _ _ us hl => match us, hl with | [_], _ => rfl, F.ok sc_is_text (fun vs H Q E h => ?_) (fun cdv A outer s H vs Q E hr h => ?_)⟩
  · obtain ⟨i, rfl, _⟩ := h
    rfl
  · obtain ⟨i, rfl, k⟩ := h
    refine ⟨_, (pss_one (ps_ret (pe_callB call_isi (by rfl) T.b_isinstance (by decide +kernel) (pa_cons (pv 0) (pa_cons (pe_bltn (v := .ty "str") (by rfl) T.b_str (by decide +kernel) rfl) pa_nil))))), ?_⟩
    exact ⟨_, rfl, _, _, _, _, true, rfl, .ty _, .base (.str _), kit_ty (by decide +kernel), k⟩
def sp_is_sequence (K : PySem.W.Frag) (Z : Za) : Sp := fun vs H Q _ => ∃ a xs, vs = [.ref a] ∧ SqT K H a xs ∧ ∀ H', Same H H' → Q (.bl true) H'
theorem c_is_sequence {f : Addr} {fd : FuncData} (F : Fun K "is_sequence" "is_sequence" s_is_sequence f fd) (g : mg "is_sequence" = some (.ref f)) (T : Bl mg)   : Cal P w K mg base 1 "is_sequence" ["value"] (sp_is_sequence K Z) := by
  refine ⟨f, fd, g, F.kp, F.binds (ps := ["value"]) fun _ _ _ _ _ _ us hl => match us, hl with | [_], _ => rfl, F.ok sc_is_sequence (fun vs H Q E h => ?_) (fun cdv A outer s H vs Q E hr h => ?_)⟩
  · obtain ⟨a, xs, rfl, _⟩ := h
    rfl
  · obtain ⟨a, xs, rfl, ha, k⟩ := h
    refine ⟨_, (pss_one (ps_ret (pe_callB call_isiT (by rfl) T.b_isinstance (by decide +kernel) (pa_cons (pv 0) (pa_cons (pe_tup (pa_cons (pe_bltn (v := .ty "list") (by rfl) T.b_list (by decide +kernel) rfl) (pa_cons (pe_bltn (v := .ty "tuple") (by rfl) T.b_tuple (by decide +kernel) rfl) pa_nil))) pa_nil))))), ?_⟩
    refine ⟨_, rfl, (by show 2 ≤ sizeLine; decide), fun p np => ?_⟩
    refine ⟨_, p, _, _, [.type "list", .type "tuple"], true, rfl, upd_same, .cons (.ty _) (.cons (.ty _) .nil), ty_tup (tex (same_new np) _ _ ha), ?_, k _ (same_new np)⟩
    exact kitAny_cons (b := false) (kit_ty (by decide +kernel)) (fun _ => kitAny_cons (b := true) (kit_ty (by decide +kernel)) (fun e => nomatch e) fun _ => rfl) fun e => nomatch e
def sp_is_pair (K : PySem.W.Frag) (Z : Za) : Sp := fun vs H Q _ => ∃ a x y, vs = [.ref a] ∧ SqT K H a [x, y] ∧ Q (.bl true) H
theorem c_is_pair {f : Addr} {fd : FuncData} (F : Fun K "is_pair" "is_pair" s_is_pair f fd) (g : mg "is_pair" = some (.ref f)) (T : Bl mg)   : Cal P w K mg base 1 "is_pair" ["value"] (sp_is_pair K Z) := by
  refine ⟨f, fd, g, F.kp, F.binds (ps := ["value"]) fun _ _ _ _ _ _ us hl => match us, hl with | [_], _ => rfl, F.ok sc_is_pair (fun vs H Q E h => ?_) (fun cdv A outer s H vs Q E hr h => ?_)⟩
  · obtain ⟨a, x, y, rfl, _⟩ := h
    rfl
  · obtain ⟨a, x, y, rfl, ha, k⟩ := h
    refine ⟨_, (pss_one (ps_ret (pe_and (pe_callB call_isi (by rfl) T.b_isinstance (by decide +kernel) (pa_cons (pv 0) (pa_cons (pe_bltn (v := .ty "tuple") (by rfl) T.b_tuple (by decide +kernel) rfl) pa_nil))) (pe_one (pe_cmpR op_eq (pe_callB call_len_seq (by rfl) T.b_len PySem.boot_len (pa_cons (pv 0) pa_nil)) pe_int (nomark _)))))), ?_⟩
    refine ⟨_, rfl, _, _, _, _, true, rfl, .ty _, ty_tup ha, kit_ty (by decide +kernel), true, rfl, iteT ?_⟩
    exact ⟨_, rfl, _, _, rfl, .inr ha, rfl, k⟩
/-- a name as the program takes it -/
def NameOk (x : Str) : Prop := 1 ≤ x.length ∧ x.length ≤ 8 ∧ ∀ c ∈ x.cps.toList, c ∈ ("abcdefghijklmnopqrstuvwxyz" : Str).cps.toList
def sp_is_name (K : PySem.W.Frag) (Z : Za) : Sp := fun vs H Q _ => ∃ x, vs = [.str x] ∧ NameOk x ∧ ∀ H', Same H H' → Q (.bl true) H'
theorem c_is_name {f : Addr} {fd : FuncData} (F : Fun K "is_name" "is_name" s_is_name f fd) (g : mg "is_name" = some (.ref f)) (T : Bl mg) (c_is_text : Cal P w K mg base 1 "is_text" ["value"] (sp_is_text K Z))  : Cal P w K mg base 2 "is_name" ["value"] (sp_is_name K Z) := by
  refine ⟨f, fd, g, F.kp, F.binds (ps := ["value"]) fun _ _ _ _ _ _ us hl => match us, hl with | [_], _ => rfl, F.ok sc_is_name (fun vs H Q E h => ?_) (fun cdv A outer s H vs Q E hr h => ?_)⟩
  · obtain ⟨x, rfl, _⟩ := h
    rfl
  · obtain ⟨x, rfl, ⟨h1, h2, h3⟩, k⟩ := h
    obtain ⟨t1, gLONGEST⟩ := T.gLONGEST
    obtain ⟨t2, gLETTERS⟩ := T.gLETTERS
    refine ⟨_, (pss_one (ps_ret (pe_and (pe_cal c_is_text (hr.mono (by decide)) (by rfl) (pa_cons (pv 0) pa_nil)) (pe_and (pe_chain op_le op_le pe_int (pe_callB call_len_str (by rfl) T.b_len PySem.boot_len (pa_cons (pv 0) pa_nil)) (pe_glob (v := .int 8) rfl gLONGEST ⟨_, rfl⟩)) (pe_one (pe_callB (cr_all rfl) (by rfl) T.b_all (by decide +kernel) (pa_cons (pe_lc (g := (gName 1)) (own := [("sign", 1)]) rfl sc_is_name.nd (pi_str (pv 0)) (blkOk_by (own := [("sign", 1)]) (N := n_is_name) (sc := defScope s_is_name) (by decide +kernel)) (fun _ _ _ _ _ => (pg_name (i := 1) sc_is_name.nd rfl (.inl rfl) (.inr rfl))) (fun _ _ _ _ _ => pts_nil) (fun _ _ _ _ _ => (pe_cmpR op_in_sign (pv 1) (pe_glob (v := .str "abcdefghijklmnopqrstuvwxyz") rfl gLETTERS ⟨_, rfl⟩) rfl))) pa_nil))))))), ?_⟩
    refine ⟨_, rfl, x, rfl, true, rfl, iteT ?_⟩
    have hl : (x.length : Int) ≤ 8 := by omega
    refine ⟨_, rfl, x, rfl, Nat.le_trans h2 (by decide), _, _, rfl, rfl, true, blT (show (1 : Int) ≤ (x.length : Int) by omega), iteT ?_⟩
    refine ⟨_, _, rfl, rfl, true, blT hl, iteT ?_⟩
    refine ⟨_, rfl, x, rfl, fun D nD => ?_⟩
    refine lc_it walk_str (fun i H' => Same H H' ∧ H' D = some (.lst ((List.replicate i true).map V.bl))) ⟨same_new nD, upd_same⟩ (fun _ _ _ _ => trivial) ?_ ?_
    · rintro i y H1 H2 hi ⟨s1, d1⟩ ⟨rfl, c, hc, rfl⟩
      refine ⟨rfl, _, rfl, c, _, rfl, rfl, ?_⟩
      rw [decide_eq_true (h3 c (Array.mem_toList_iff.mpr (Array.mem_of_getElem? hc)))]
      refine ⟨_, d1, ?_, fun b o e => ?_, ?_⟩
      · rw [List.length_map, List.length_replicate]
        exact Nat.lt_of_lt_of_le hi (Nat.le_trans h2 (by decide))
      · rw [upd_ne (ne_of_none e nD)]
        exact s1 b o e
      · rw [upd_same, List.replicate_succ', List.map_append]
        rfl
    · rintro H1 ⟨s1, d1⟩
      refine ⟨D, _, rfl, .inl (.inl d1), ?_⟩
      have : (List.replicate x.cps.size true).all id = true := by
        rw [List.all_eq_true]
        intro b hb
        exact (List.mem_replicate.mp hb).2
      rw [this]
      exact k H1 s1
def sp_need_number (K : PySem.W.Frag) (Z : Za) : Sp := fun vs H Q _ => ∃ i b z, vs = [.int i, .int b, .str z] ∧ 0 ≤ i ∧ i < b ∧ Q .non H
theorem c_need_number {f : Addr} {fd : FuncData} (F : Fun K "need_number" "need_number" s_need_number f fd) (g : mg "need_number" = some (.ref f)) (T : Bl mg) (c_is_below : Cal P w K mg base 2 "is_below" ["value", "bound"] (sp_is_below K Z))  : Cal P w K mg base 3 "need_number" ["value", "bound", "word"] (sp_need_number K Z) := by
  refine ⟨f, fd, g, F.kp, F.binds (ps := ["value", "bound", "word"]) fun _ _ _ _ _ _ us hl => match us, hl with | [_, _, _], _ => rfl, F.ok sc_need_number (fun vs H Q E h => ?_) (fun cdv A outer s H vs Q E hr h => ?_)⟩
  · obtain ⟨i, b, z, rfl, _⟩ := h
    rfl
  · obtain ⟨i, b, z, rfl, h0, h1, k⟩ := h
    refine ⟨_, (pss_one (ps_if (pt_not (pt_val (pe_cal c_is_below (hr.mono (by decide)) (by rfl) (pa_cons (pv 0) (pa_cons (pv 1) pa_nil)))))
        (pss_one ps_never)
        pss_nil)), ?_⟩
    exact ⟨_, rfl, _, rfl, i, b, rfl, h0, h1, true, rfl, iteF k⟩
def sp_lot_of (K : PySem.W.Frag) (Z : Za) : Sp := fun vs H Q _ => ∃ a xs, vs = [.ref a] ∧ SqL K H a (xs.map V.str) ∧ xs.Nodup ∧ xs.length ≤ 100 ∧
  ∀ H' p, Same H H' → SqT K H' p ((sortT xs).map V.str) → Q (.ref p) H'
theorem c_lot_of {f : Addr} {fd : FuncData} (F : Fun K "lot_of" "lot_of" s_lot_of f fd) (g : mg "lot_of" = some (.ref f)) (T : Bl mg)   : Cal P w K mg base 1 "lot_of" ["things"] (sp_lot_of K Z) := by
  refine ⟨f, fd, g, F.kp, F.binds (ps := ["things"]) fun _ _ _ _ _ _ us hl => match us, hl with | [_], _ => rfl, F.ok sc_lot_of (fun vs H Q E h => ?_) (fun cdv A outer s H vs Q E hr h => ?_)⟩
  · obtain ⟨a, xs, rfl, _⟩ := h
    rfl
  · obtain ⟨a, xs, rfl, ha, nd, hl, k⟩ := h
    refine ⟨_, (pss_one (ps_ret (pe_callTy call_tuple_of (by rfl) T.b_tuple (by decide +kernel) (pa_cons (pe_callB (cr_sortTx rfl hr.units) (by rfl) T.b_sorted (by decide +kernel) (pa_cons (pe_callTy (cr_setTx rfl) (by rfl) T.b_set (by decide +kernel) (pa_cons (pv 0) pa_nil)) pa_nil)) pa_nil)))), ?_⟩
    refine ⟨_, rfl, a, xs, rfl, ha, nd, Nat.le_trans hl (by decide), fun p np => ?_⟩
    refine ⟨p, xs.reverse, rfl, upd_same, by rw [List.length_reverse]; exact Nat.le_trans hl (by decide), fun q nq => ?_⟩
    refine ⟨q, _, rfl, .inl ⟨.inl (.inl upd_same), fun r nr => ?_⟩⟩
    refine k _ r ((same_new np).trans ((same_new nq).trans (same_new nr))) (.inl (.inl ?_))
    rw [upd_same, sortT_eq (List.reverse_perm xs)]
end
end K19
end

section
set_option Elab.async false
set_option linter.all false
set_option maxRecDepth 100000
set_option maxHeartbeats 4000000
/-! W2: data in the heap: timetables, dicts with text keys; yards. -/
namespace K19
open PySem L2 K19M
/-! ### dicts of texts -/
def tk {β : Type} (l : List (Str × β)) : List (Key × β) := l.map fun e => ((Sum.inr e.1 : Key), e.2)
theorem valV_tk (l : List (Str × V)) (x : Str) : valV (tk l) (Sum.inr x) = aget l x := by
  unfold valV aget tk
  induction l with
  | nil => rfl
  | cons e l ih =>
    rw [List.map_cons, List.find?_cons, List.find?_cons]
    by_cases q : e.1 = x
    · rw [decide_eq_true q, decide_eq_true (show (Sum.inr e.1 : Key) = Sum.inr x by rw [q])]
      rfl
    · rw [decide_eq_false q, decide_eq_false (show ¬ (Sum.inr e.1 : Key) = Sum.inr x from fun z => q (Sum.inr.inj z))]
      exact ih
theorem any_tk (l : List (Str × V)) (x : Str) : ((tk l).any fun kv => decide (kv.1 = (Sum.inr x : Key))) = l.any fun kv => decide (kv.1 = x) := by
  induction l with
  | nil => rfl
  | cons e l ih =>
    show (decide ((Sum.inr e.1 : Key) = Sum.inr x) || _) = (decide (e.1 = x) || _)
    by_cases q : e.1 = x
    · rw [decide_eq_true q, decide_eq_true (show (Sum.inr e.1 : Key) = Sum.inr x by rw [q])]
      rfl
    · rw [decide_eq_false q, decide_eq_false (show ¬ (Sum.inr e.1 : Key) = Sum.inr x from fun z => q (Sum.inr.inj z))]
      exact ih
theorem putK_tk (l : List (Str × V)) (x : Str) (v : V) : putK (tk l) (Sum.inr x) v = tk (aput l x v) := by
  unfold putK aput
  rw [any_tk]
  by_cases q : (l.any fun kv => decide (kv.1 = x)) = true
  · rw [if_pos q, if_pos q]
    unfold tk
    rw [List.map_map, List.map_map]
    refine List.map_congr_left fun e _ => ?_
    show (if (Sum.inr e.1 : Key) = Sum.inr x then _ else _) = ((Sum.inr (if e.1 = x then (e.1, v) else e).1 : Key), (if e.1 = x then (e.1, v) else e).2)
    by_cases z : e.1 = x
    · rw [if_pos z, if_pos (show (Sum.inr e.1 : Key) = Sum.inr x by rw [z])]
    · rw [if_neg z, if_neg (show ¬ (Sum.inr e.1 : Key) = Sum.inr x from fun y => z (Sum.inr.inj y))]
  · rw [if_neg q, if_neg q]
    unfold tk
    rw [List.map_append]
    rfl
theorem aput_keys {α β : Type} [DecidableEq α] (l : List (α × β)) (x : α) (v : β) : (aput l x v).map (·.1) = if x ∈ l.map (·.1) then l.map (·.1) else l.map (·.1) ++ [x] := by
  by_cases q : x ∈ l.map (·.1)
  · rw [if_pos q, aput_old v q, List.map_map]
    refine List.map_congr_left fun e _ => ?_
    show (if e.1 = x then (e.1, v) else e).1 = e.1
    split <;> rfl
  · rw [if_neg q, aput_new v q, List.map_append]
    rfl
theorem aput_len {α β : Type} [DecidableEq α] (l : List (α × β)) (x : α) (v : β) : (aput l x v).length ≤ l.length + 1 := by
  have := congrArg List.length (aput_keys l x v)
  rw [List.length_map] at this
  rw [this]
  split
  · rw [List.length_map]
    omega
  · rw [List.length_append, List.length_map]
    exact Nat.le_refl _
theorem aput_nd {α β : Type} [DecidableEq α] {l : List (α × β)} (x : α) (v : β) (nd : (l.map (·.1)).Nodup) : ((aput l x v).map (·.1)).Nodup := by
  rw [aput_keys]
  split
  · exact nd
  · exact List.nodup_append.mpr ⟨nd, List.nodup_cons.mpr ⟨List.not_mem_nil, List.nodup_nil⟩, fun a ha b hb e => by
      rw [List.mem_singleton.mp hb] at e
      subst e
      contradiction⟩
theorem aget_isSome {α β : Type} [DecidableEq α] {l : List (α × β)} {x : α} : (aget l x).isSome = true ↔ x ∈ l.map (·.1) := by
  constructor
  · intro h
    obtain ⟨v, e⟩ := Option.isSome_iff_exists.mp h
    exact List.mem_map.mpr ⟨_, aget_mem e, rfl⟩
  · intro h
    cases e : aget l x with
    | some v => rfl
    | none =>
      exfalso
      unfold aget at e
      rw [Option.map_eq_none_iff, List.find?_eq_none] at e
      obtain ⟨p, hp, rfl⟩ := List.mem_map.mp h
      exact e p hp (decide_eq_true rfl)
section
variable {K : PySem.W.Frag} {H H' : Hp}
/-- a dict of texts at d, its values data -/
def DK (K : PySem.W.Frag) (H : Hp) (d : Addr) (l : List (Str × PyData)) : Prop := ∃ l' : List (Str × V), H d = some (.dK (tk l')) ∧ l'.map (·.1) = l.map (·.1) ∧ DtAll K H (l'.map (·.2)) (l.map (·.2))
theorem DK.mono {d : Addr} {l : List (Str × PyData)} (h : DK K H d l) (m : TupEx K H H') (e : ∀ o, H d = some o → H' d = some o) : DK K H' d l := by
  obtain ⟨l', a, b, c⟩ := h
  exact ⟨l', e _ a, b, DtAll.mono m _ _ c⟩
theorem DK.same {d : Addr} {l : List (Str × PyData)} (h : DK K H d l) (s : Same H H') : DK K H' d l := h.mono (tex s) (s d)
theorem dk_get : ∀ {l' : List (Str × V)} {l : List (Str × PyData)} {x : Str}, l'.map (·.1) = l.map (·.1) → DtAll K H (l'.map (·.2)) (l.map (·.2)) → (aget l x = none → aget l' x = none) ∧ ∀ b, aget l x = some b → ∃ v, aget l' x = some v ∧ Dt K H v b
  | [], [], x, _, _ => ⟨fun _ => rfl, fun b e => nomatch e⟩
  | [], _ :: _, x, h, _ => nomatch h
  | _ :: _, [], x, h, _ => nomatch h
  | p :: l', q :: l, x, h, g => by
    obtain ⟨h1, h2⟩ := List.cons.inj h
    cases g with
    | cons a b =>
      have ih := dk_get (x := x) h2 b
      unfold aget at ih ⊢
      rw [List.find?_cons, List.find?_cons]
      by_cases z : p.1 = x
      · rw [decide_eq_true z, decide_eq_true (show q.1 = x from (show p.1 = q.1 from h1).symm.trans z)]
        exact ⟨fun e => (nomatch e), fun b e => ⟨p.2, rfl, by cases e; exact a⟩⟩
      · rw [decide_eq_false z, decide_eq_false (show ¬ q.1 = x from fun y => z ((show p.1 = q.1 from h1).trans y))]
        exact ih
theorem DK.dget {d : Addr} {l : List (Str × PyData)} (h : DK K H d l) (x : Str) : ∃ r, DGet H d (.str x) r ∧ r.isSome = (aget l x).isSome ∧ ∀ b, aget l x = some b → ∃ v, r = some v ∧ Dt K H v b := by
  obtain ⟨l', a, b, c⟩ := h
  obtain ⟨g1, g2⟩ := dk_get (x := x) b c
  refine ⟨valV (tk l') (Sum.inr x), DGet.k (k := Sum.inr x) a, ?_, ?_⟩
  · rw [valV_tk]
    cases e : aget l x with
    | none =>
      rw [g1 e]
      rfl
    | some b =>
      obtain ⟨v, ev, _⟩ := g2 b e
      rw [ev]
      rfl
  · rw [valV_tk]
    exact g2
theorem dk_put : ∀ {l' : List (Str × V)} {l : List (Str × PyData)} {x : Str} {v : V} {b : PyData}, l'.map (·.1) = l.map (·.1) → DtAll K H (l'.map (·.2)) (l.map (·.2)) → Dt K H v b →
    DtAll K H ((aput l' x v).map (·.2)) ((aput l x b).map (·.2)) := by
  intro l' l x v b h g q
  by_cases z : x ∈ l.map (·.1)
  · rw [aput_old _ z, aput_old _ (h ▸ z)]
    clear z
    induction l' generalizing l with
    | nil =>
      cases l with
      | nil => exact .nil
      | cons _ _ => cases h
    | cons p l' ih =>
      cases l with
      | nil => cases h
      | cons r l =>
        obtain ⟨h1, h2⟩ := List.cons.inj h
        cases g with
        | cons g1 g2 =>
          refine .cons ?_ (ih h2 g2)
          show Dt K H (if p.1 = x then (p.1, v) else p).2 (if r.1 = x then (r.1, b) else r).2
          by_cases y : p.1 = x
          · rw [if_pos y, if_pos (show r.1 = x from (show p.1 = r.1 from h1).symm.trans y)]
            exact q
          · rw [if_neg y, if_neg (show ¬ r.1 = x from fun w => y ((show p.1 = r.1 from h1).trans w))]
            exact g1
  · rw [aput_new _ z, aput_new _ (h ▸ z), List.map_append, List.map_append]
    exact DtAll.app g (.cons q .nil)
theorem DK.dput {d : Addr} {l : List (Str × PyData)} (h : DK K H d l) (x : Str) {v : V} {b : PyData} (q : Dt K H v b) (hl : l.length ≤ 1000) :
    ∃ o, DPut H d (.str x) v (upd H d o) ∧ DK K (upd H d o) d (aput l x b) ∧ TupEx K H (upd H d o) := by
  obtain ⟨l', a, e, c⟩ := h
  have len : l'.length = l.length := by
    have := congrArg List.length e
    rwa [List.length_map, List.length_map] at this
  have m : ∀ o, TupEx K H (upd H d o) := fun o => tupEx_at a (fun _ z => nomatch z) fun _ _ z => nomatch z
  refine ⟨.dK (putK (tk l') (Sum.inr x) v), DPut.k (k := Sum.inr x) a (by unfold tk; rw [List.length_map, len]; exact small1000 hl), ⟨aput l' x v, ?_, ?_, ?_⟩, m _⟩
  · rw [upd_same, putK_tk]
  · rw [aput_keys, aput_keys, e]
  · exact DtAll.mono (m _) _ _ (dk_put e c q)
theorem DK.nil {d : Addr} (h : H d = some (.dK [])) : DK K H d [] := ⟨[], h, rfl, .nil⟩
theorem DK.len {d : Addr} {l : List (Str × PyData)} (h : DK K H d l) : ∃ kvs, H d = some (.dK kvs) ∧ kvs.length = l.length := by
  obtain ⟨l', a, e, c⟩ := h
  refine ⟨_, a, ?_⟩
  have := congrArg List.length e
  rw [List.length_map, List.length_map] at this
  unfold tk
  rw [List.length_map, this]
/-! ### timetables -/
def wd (b : Bool) : Str := if b then "in" else "out"
def evD (e : Bool × Str) : PyData := .tuple [.str (wd e.1), .str e.2]
def TimAt (K : PySem.W.Frag) (H : Hp) (t : Addr) (evs : List (Bool × Str)) : Prop := ∃ xs, SqT K H t xs ∧ DtAll K H xs (evs.map evD)
theorem TimAt.mono {t : Addr} {evs : List (Bool × Str)} (h : TimAt K H t evs) (m : TupEx K H H') : TimAt K H' t evs := by
  obtain ⟨xs, a, b⟩ := h
  exact ⟨xs, m _ _ a, DtAll.mono m _ _ b⟩
theorem ev_inv {v : V} {e : Bool × Str} (h : Dt K H v (evD e)) : ∃ t, v = .ref t ∧ SqT K H t [.str (wd e.1), .str e.2] := by
  obtain ⟨a, xs, rfl, s, q0⟩ := Dt.tup_inv h
  obtain ⟨v1, r1, rfl, d1, q1⟩ := DtAll.cons_inv q0
  obtain ⟨v2, r2, rfl, d2, q2⟩ := DtAll.cons_inv q1
  cases Dt.str_inv d1
  cases Dt.str_inv d2
  cases DtAll.nil_inv q2
  exact ⟨a, rfl, s⟩
theorem wd_in : ∀ b, (wd b = "in" ↔ b = true) ∧ (wd b = "out" ↔ b = false) := by decide +kernel
theorem wd_t : wd true = "in" := rfl
theorem wd_f : wd false = "out" := rfl
/-! ### yards -/
def zs (l : List Nat) : List Int := List.map (fun n : Nat => (n : Int)) l
theorem zs_sum : ∀ l : List Nat, (zs l).sum = ((l.sum : Nat) : Int)
  | [] => rfl
  | n :: l => by
    show (n : Int) + (zs l).sum = ((n + l.sum : Nat) : Int)
    rw [zs_sum l]
    omega
def hV (h : List Nat) : List V := (zs h).map V.int
theorem hV_len (h : List Nat) : (hV h).length = h.length := by
  unfold hV zs
  rw [List.length_map, List.length_map]
theorem hV_get {h : List Nat} {i : Nat} {x : V} (e : (hV h)[i]? = some x) : ∃ n, h[i]? = some n ∧ x = .int (n : Int) := by
  unfold hV zs at e
  rw [List.getElem?_map, List.getElem?_map] at e
  cases q : h[i]? with
  | none =>
    rw [q] at e
    cases e
  | some n =>
    rw [q] at e
    exact ⟨n, rfl, (Option.some.inj e).symm⟩
theorem hV_at {h : List Nat} {i n : Nat} (e : h[i]? = some n) : (hV h)[i]? = some (.int (n : Int)) := by
  unfold hV zs
  rw [List.getElem?_map, List.getElem?_map, e]
  rfl
structure HtOk (h : List Nat) : Prop where
  l3 : 3 ≤ h.length
  l12 : h.length ≤ 12
  n : ∀ n ∈ h, 1 ≤ n ∧ n ≤ 3
def YardAt (K : PySem.W.Frag) (Z : Za) (H : Hp) (y : Addr) (h : List Nat) : Prop := ∃ dx a, H y = some (.ins Z.Y dx [("heights", .ref a)]) ∧ SqT K H a (hV h)
theorem YardAt.same {Z : Za} {y : Addr} {h : List Nat} (q : YardAt K Z H y h) (s : Same H H') : YardAt K Z H' y h := by
  obtain ⟨dx, a, e, g⟩ := q
  exact ⟨dx, a, s _ _ e, tex s _ _ g⟩
end
/-- the classes as the top has made them -/
structure Cf (K : PySem.W.Frag) (Z : Za) : Prop where
  yc : Cls K Z.Y
  yh : NoAttr K Z.Y "heights"
  dc : Cls K Z.D
  dt : NoAttr K Z.D "table"
  sc : Cls K Z.S
  s1 : NoAttr K Z.S "cover"
  s2 : NoAttr K Z.S "stretch"
  s3 : NoAttr K Z.S "stayers"
section
variable {P : Program} {w : World} {K : PySem.W.Frag} {mg : Str → Option Value} {base : Heap} {Z : Za}
def sp_Yard_init (K : PySem.W.Frag) (Z : Za) : Sp := fun vs H Q _ => ∃ y dx a h, vs = [.ref y, .ref a] ∧ H y = some (.ins Z.Y dx []) ∧ SqT K H a (hV h) ∧ HtOk h ∧
  ∀ H', YardAt K Z H' y h → (∀ b o, H b = some o → b ≠ y → H' b = some o) → Q .non H'
theorem m_Yard {f : Addr} {fd : FuncData} (F : Fun K "__init__" "Yard.__init__" s_Yard__init f fd) (T : Bl mg) (c_is_sequence : Cal P w K mg base 1 "is_sequence" ["value"] (sp_is_sequence K Z)) (c_is_below : Cal P w K mg base 2 "is_below" ["value", "bound"] (sp_is_below K Z))  (C : Cf K Z) : FnOk P w K mg base CX0 3 f fd ["self", "heights"] (sp_Yard_init K Z) := by
  refine F.ok sc_Yard__init (fun vs H Q E h => ?_) (fun cdv A outer s H vs Q E hr h => ?_)
  · obtain ⟨y, dx, a, h, rfl, _⟩ := h
    rfl
  · obtain ⟨y, dx, a, h, rfl, hy, ha, hh, k⟩ := h
    obtain ⟨t1, gFEWEST⟩ := T.gFEWEST
    obtain ⟨t2, gMOST⟩ := T.gMOST
    refine ⟨_, (pss_cons (ps_if (PW.pt (pw_or (pt_not (pt_val (pe_cal c_is_sequence (hr.mono (by decide)) (by rfl) (pa_cons (pv 1) pa_nil)))) (pw_or1 (pt_not (pt_chain op_le op_le (pe_glob (v := .int 3) rfl gFEWEST ⟨_, rfl⟩) (pe_callB call_len_seq (by rfl) T.b_len PySem.boot_len (pa_cons (pv 1) pa_nil)) (pe_glob (v := .int 12) rfl gMOST ⟨_, rfl⟩))))))
        (pss_one ps_never)
        pss_nil)
      (pss_cons (ps_for PassesOwn.never rfl (pi_enumT (by rfl) T.b_enumerate (pa_cons (pv 1) pa_nil)) (pg_tup rfl (pgs_cons (pg_name (i := 2) sc_Yard__init.nd rfl (.inl rfl)) (pgs_cons (pg_name (i := 3) sc_Yard__init.nd rfl (.inl rfl)) pgs_nil)))
        (pss_one (ps_if (PW.pt (pw_or (pt_not (pt_val (pe_cal c_is_below (hr.mono (by decide)) (by rfl) (pa_cons (pv 3) (pa_cons (pe_op op_add (pe_glob (v := .int 12) rfl gMOST ⟨_, rfl⟩) pe_int) pa_nil))))) (pw_or1 (pt_cmpR op_eq (pv 3) pe_int (nomark _)))))
          (pss_one ps_never)
          pss_nil)))
      (pss_one (ps_fld (pv 0) (pe_callTy call_tuple_of (by rfl) T.b_tuple (by decide +kernel) (pa_cons (pv 1) pa_nil)) rfl)))), ?_⟩
    refine ⟨_, rfl, a, _, rfl, ha, fun H1 s1 => ⟨true, rfl, iteF ?_⟩⟩
    have ha1 := tex s1 _ _ ha
    have e1 := hV_len h
    have e2 := hh.l3
    have e3 := hh.l12
    refine ⟨_, rfl, a, _, rfl, .inr ha1, _, _, rfl, rfl, true, blT (by omega), iteT ⟨_, _, rfl, rfl, true, blT (by omega), iteF ?_⟩⟩
    refine ⟨_, rfl, a, _, rfl, ha1, for_it walk_enumT (fun i σ H2 => ∃ v2 v3, σ = [some (.ref y), some (.ref a), v2, v3] ∧ Same H H2) ⟨_, _, rfl, s1⟩ (fun i σ H2 _ ⟨_, _, _, s2⟩ => tex s2 _ _ ha) ?_ ?_⟩
    · rintro i x σ H2 H3 hi ⟨v2, v3, rfl, s2⟩ ⟨p, x1, x2, rfl, np, rfl, e1, e2⟩
      obtain ⟨n, hn, rfl⟩ := hV_get e2
      have hn1 := hh.n n (List.mem_of_getElem? hn)
      refine ⟨p, [x1, .int n], rfl, .inl (.inl upd_same), rfl, x1, [.int n], rfl, .int n, [], rfl, rfl, ?_⟩
      refine ⟨_, rfl, _, _, rfl, rfl, _, _, rfl, by omega, by omega, true, rfl, iteF ?_⟩
      refine ⟨_, rfl, rfl, _, rfl, ite2 (fun e => ?_) fun _ => ?_⟩
      · exfalso
        have := V.int.inj (of_decide_eq_true e)
        omega
      · exact ⟨_, _, rfl, s2.trans (same_new np)⟩
    · rintro σ H2 ⟨v2, v3, rfl, s2⟩
      refine ⟨_, rfl, a, _, rfl, .inr ⟨tex s2 _ _ ha, ?_⟩⟩
      refine ⟨_, rfl, y, Z.Y, dx, [], rfl, s2 _ _ hy, C.yc, C.yh, (by show 0 < 1000; decide), ?_⟩
      have m : TupEx K H2 (upd H2 y (.ins Z.Y dx [("heights", .ref a)])) := tupEx_at (s2 _ _ hy) (fun _ z => nomatch z) fun _ _ z => nomatch z
      exact k _ ⟨dx, a, upd_same, m _ _ (tex s2 _ _ ha)⟩ fun b o e ne => by
        rw [upd_ne ne]
        exact s2 b o e
def sp_places (K : PySem.W.Frag) (Z : Za) : Sp := fun vs H Q _ => ∃ y h, vs = [.ref y] ∧ YardAt K Z H y h ∧ Q (.int ((h.sum : Nat) : Int)) H
theorem lookH {v : V} : List.lookup ("heights" : Str) [("heights", v)] = some v := List.lookup_cons_self
theorem c_places {f : Addr} {fd : FuncData} (F : Fun K "places" "places" s_places f fd) (g : mg "places" = some (.ref f)) (T : Bl mg)   (C : Cf K Z) : Cal P w K mg base 1 "places" ["yard"] (sp_places K Z) := by
  refine ⟨f, fd, g, F.kp, F.binds (ps := ["yard"]) fun _ _ _ _ _ _ us hl => match us, hl with | [_], _ => rfl, F.ok sc_places (fun vs H Q E h => ?_) (fun cdv A outer s H vs Q E hr h => ?_)⟩
  · obtain ⟨y, h, rfl, _⟩ := h
    rfl
  · obtain ⟨y, h, rfl, ⟨dx, a, hy, ha⟩, k⟩ := h
    refine ⟨_, (pss_one (ps_ret (pe_callB (cr_sumT rfl) (by rfl) T.b_sum (by decide +kernel) (pa_cons (pe_fld (pv 0) rfl) pa_nil)))), ?_⟩
    refine ⟨_, rfl, y, Z.Y, dx, _, _, rfl, hy, C.yc, C.yh, lookH, a, zs h, rfl, ha, ?_⟩
    rw [zs_sum]
    exact k
end
end K19
end

section
set_option Elab.async false
set_option linter.all false
set_option maxRecDepth 100000
set_option maxHeartbeats 4000000
/-! W3: layers; timetables are taken. -/
namespace K19
open PySem L2 K19M
section
variable {P : Program} {w : World} {K : PySem.W.Frag} {mg : Str → Option Value} {base : Heap} {Z : Za}
theorem two : 2 ≤ sizeLine := by decide
theorem small {n : Nat} (h : n ≤ 1000) : n ≤ sizeLine := Nat.le_of_lt (small1000 h)
theorem ref_new {H : Hp} {p : Addr} {xs : List V} {ds : List PyData} (h : H p = some (.tup xs)) (d : DtAll K H xs ds) : Dt K H (.ref p) (.tuple ds) := .tup (.inl (.inl h)) d
def layerL (u : Nat) (h : List Nat) : List PyData := (h.zipIdx.filter fun p => decide (u < p.1)).map fun p => .tuple [.int (p.2 : Int), .int ((p.1 : Int) - 1 - (u : Int))]
theorem layerL_take {u i n : Nat} {h : List Nat} (e : h[i]? = some n) : layerL u (h.take (i + 1)) = layerL u (h.take i) ++ (if u < n then [.tuple [.int (i : Int), .int ((n : Int) - 1 - (u : Int))]] else []) := by
  have hl := (List.getElem?_eq_some_iff.mp e).1
  unfold layerL
  rw [List.take_add_one, e, List.zipIdx_append, List.filter_append, List.map_append, List.length_take, Nat.min_eq_left (Nat.le_of_lt hl)]
  congr 1
  show List.map _ (List.filter _ [(n, 0 + i)]) = _
  rw [Nat.zero_add, List.filter_cons]
  by_cases q : u < n
  · rw [if_pos q, if_pos (decide_eq_true q)]
    rfl
  · rw [if_neg q, if_neg (fun z => q (of_decide_eq_true z))]
    rfl
theorem layerL_len (u : Nat) (h : List Nat) : (layerL u h).length ≤ h.length := by
  unfold layerL
  rw [List.length_map]
  exact Nat.le_trans (List.length_filter_le _ _) (by rw [List.length_zipIdx]; exact Nat.le_refl _)
def sp_layer (K : PySem.W.Frag) (Z : Za) : Sp := fun vs H Q _ => ∃ (y : Addr) (h : List Nat) (u : Nat), vs = [.ref y, .int (u : Int)] ∧ YardAt K Z H y h ∧ h.length ≤ 12 ∧
  ∀ H' p, Same H H' → Dt K H' (.ref p) (.tuple (layerL u h)) → Q (.ref p) H'
theorem c_layer {f : Addr} {fd : FuncData} (F : Fun K "layer" "layer" s_layer f fd) (g : mg "layer" = some (.ref f)) (T : Bl mg)   (C : Cf K Z) : Cal P w K mg base 1 "layer" ["yard", "cover"] (sp_layer K Z) := by
  refine ⟨f, fd, g, F.kp, F.binds (ps := ["yard", "cover"]) fun _ _ _ _ _ _ us hl => match us, hl with | [_, _], _ => rfl, F.ok sc_layer (fun vs H Q E h => ?_) (fun cdv A outer s H vs Q E hr h => ?_)⟩
  · obtain ⟨y, h, u, rfl, _⟩ := h
    rfl
  · obtain ⟨y, h, u, rfl, ⟨dx, a, hy, ha⟩, hl, k⟩ := h
    refine ⟨_, (pss_one (ps_ret (pe_callTy call_tuple_of (by rfl) T.b_tuple (by decide +kernel) (pa_cons (pe_lc (g := (gTup K 2 (gCons (gName 2) (gCons (gName 3) gNil)))) (own := [("stack", 2), ("height", 3)]) rfl sc_layer.nd (pi_enumT (by rfl) T.b_enumerate (pa_cons (pe_fld (pv 0) rfl) pa_nil)) (blkOk_by (own := [("stack", 2), ("height", 3)]) (N := n_layer) (sc := defScope s_layer) (by decide +kernel)) (fun _ _ _ _ _ => (pg_tup rfl (pgs_cons (pg_name (i := 2) sc_layer.nd rfl (.inl rfl) (.inr rfl)) (pgs_cons (pg_name (i := 3) sc_layer.nd rfl (.inl rfl) (.inr rfl)) pgs_nil)))) (fun _ _ _ _ _ => (pts_one (pt_cmpR op_gt (pv 3) (pv 1) (nomark _)))) (fun _ _ _ _ _ => (pe_tup (pa_cons (pv 2) (pa_cons (pe_op op_sub (pe_op op_sub (pv 3) pe_int) (pv 1)) pa_nil))))) pa_nil)))), ?_⟩
    refine ⟨_, rfl, y, Z.Y, dx, _, _, rfl, hy, C.yc, C.yh, lookH, a, _, rfl, ha, fun D nD => ?_⟩
    refine lc_it walk_enumT (fun i H2 => Same H H2 ∧ ∃ acc, H2 D = some (.lst acc) ∧ DtAll K H2 acc (layerL u (h.take i))) ⟨same_new nD, [], upd_same, .nil⟩ (fun i H2 _ s2 => tex s2.1 _ _ ha) ?_ ?_
    · rintro i x H2 H3 hi ⟨s2, acc, d2, q2⟩ ⟨p, x1, x2, rfl, np, rfl, e1, e2⟩
      obtain ⟨n, hn, rfl⟩ := hV_get e2
      obtain rfl : V.int (i : Int) = x1 := Option.some.inj e1
      have s3 := same_new (o := .tup [.int (i : Int), .int (n : Int)]) np
      have hil : i < h.length := by
        rw [← hV_len h]
        exact hi
      refine ⟨p, [.int (i : Int), .int (n : Int)], rfl, .inl (.inl upd_same), rfl, _, _, rfl, _, _, rfl, rfl, rfl, ?_⟩
      refine ⟨_, rfl, _, rfl, _, _, rfl, rfl, _, rfl, ite2 (fun e => ?_) fun e => ?_⟩
      · refine ⟨_, rfl, _, rfl, _, _, rfl, rfl, _, rfl, _, _, rfl, rfl, two, fun q nq => ?_⟩
        have s4 := s3.trans (same_new (o := .tup [.int (i : Int), .int ((n : Int) - 1 - (u : Int))]) nq)
        have hD := s4 _ _ d2
        have hu : u < n := by
          have := of_decide_eq_true e
          omega
        have hlen := DtAll.length q2
        have hl2 := layerL_len u (h.take i)
        rw [List.length_take] at hl2
        refine ⟨acc, hD, small1000 (by omega), fun b o ob => ?_, acc ++ [.ref q], upd_same, ?_⟩
        · rw [upd_ne (ne_of_none ob nD)]
          exact s4 _ _ (s2 _ _ ob)
        · rw [layerL_take hn, if_pos hu]
          have m := tex (K := K) s4
          have m2 := tupEx_lst (K := K) (o := .lst (acc ++ [.ref q])) hD
          refine DtAll.app (DtAll.mono (m.trans m2) _ _ q2) (.cons (Dt.mono m2 _ _ (ref_new upd_same (.cons (.int _) (.cons (.int _) .nil)))) .nil)
      · refine ⟨s2.trans s3, acc, s3 _ _ d2, ?_⟩
        have hu : ¬ u < n := fun z => e (decide_eq_true (by omega))
        rw [layerL_take hn, if_neg hu, List.append_nil]
        exact DtAll.mono (tex s3) _ _ q2
    · rintro H2 ⟨s2, acc, d2, q2⟩
      refine ⟨D, acc, rfl, .inl ⟨.inl (.inl d2), fun q nq => ?_⟩⟩
      have s3 := same_new (o := .tup acc) nq
      refine k _ q (s2.trans s3) (ref_new upd_same (DtAll.mono (tex s3) _ _ ?_))
      rw [hV_len, List.take_length] at q2
      exact q2
def sp_is_event (K : PySem.W.Frag) (Z : Za) : Sp := fun vs H Q _ => ∃ (t : Addr) (e : Bool × Str), vs = [.ref t] ∧ SqT K H t [.str (wd e.1), .str e.2] ∧ NameOk e.2 ∧ ∀ H', Same H H' → Q (.bl true) H'
theorem wd_inV : ∀ b : Bool, inV (.str (wd b)) [.str "in", .str "out"] = true := by decide +kernel
theorem c_is_event {f : Addr} {fd : FuncData} (F : Fun K "is_event" "is_event" s_is_event f fd) (g : mg "is_event" = some (.ref f)) (T : Bl mg) (c_is_pair : Cal P w K mg base 1 "is_pair" ["value"] (sp_is_pair K Z)) (c_is_name : Cal P w K mg base 2 "is_name" ["value"] (sp_is_name K Z))  : Cal P w K mg base 3 "is_event" ["value"] (sp_is_event K Z) := by
  refine ⟨f, fd, g, F.kp, F.binds (ps := ["value"]) fun _ _ _ _ _ _ us hl => match us, hl with | [_], _ => rfl, F.ok sc_is_event (fun vs H Q E h => ?_) (fun cdv A outer s H vs Q E hr h => ?_)⟩
  · obtain ⟨t, e, rfl, _⟩ := h
    rfl
  · obtain ⟨t, e, rfl, ht, hn, k⟩ := h
    refine ⟨_, (pss_cons (ps_if (PW.pt (pw_or (pt_not (pt_val (pe_cal c_is_pair (hr.mono (by decide)) (by rfl) (pa_cons (pv 0) pa_nil)))) (pw_or1 (pt_not (pt_val (pe_callB call_isi (by rfl) T.b_isinstance (by decide +kernel) (pa_cons (pe_ix ix_tup (pv 0) pe_int (fun _ _ => rfl)) (pa_cons (pe_bltn (v := .ty "str") (by rfl) T.b_str (by decide +kernel) rfl) pa_nil))))))))
        (pss_one (ps_ret pe_bl))
        pss_nil)
      (pss_one (ps_ret (pe_and (pe_cmpR op_in_seq (pe_ix ix_tup (pv 0) pe_int (fun _ _ => rfl)) (pe_tup (pa_cons pe_str (pa_cons pe_str pa_nil))) rfl) (pe_one (pe_cal c_is_name (hr.mono (by decide)) (by rfl) (pa_cons (pe_ix ix_tup (pv 0) pe_int (fun _ _ => rfl)) pa_nil))))))), ?_⟩
    refine ⟨_, rfl, t, _, _, rfl, ht, true, rfl, iteF ?_⟩
    refine ⟨_, rfl, t, _, 0, _, rfl, rfl, ht, atI_nat (j := 0) rfl, _, _, _, _, true, rfl, .ty _, .base (.str _), kit_ty (by decide +kernel), true, rfl, iteF ?_⟩
    refine ⟨_, rfl, t, _, 0, _, rfl, rfl, ht, atI_nat (j := 0) rfl, two, fun p np => ?_⟩
    have s1 := same_new (o := .tup [.str "in", .str "out"]) np
    refine ⟨p, _, rfl, .inr (.inl (.inl upd_same)), rfl, rfl, true, congrArg V.bl (wd_inV _), iteT ?_⟩
    exact ⟨_, rfl, t, _, 1, _, rfl, rfl, tex s1 _ _ ht, atI_nat (j := 1) rfl, e.2, rfl, hn, fun H' s2 => k H' (s1.trans s2)⟩
structure EvI (P : Nat) (C B G : List Str) (es : List (Bool × Str)) : Prop where
  tt : TT P C B es
  nB : B.Nodup
  bc : ∀ x ∈ B, x ∈ C
  gc : ∀ x ∈ G, x ∈ C
  gb : ∀ x ∈ B, x ∉ G
  len : G.length + B.length = C.length
theorem EvI.inn {P : Nat} {C B G : List Str} {x : Str} {es : List (Bool × Str)} (i : EvI P C B G ((true, x) :: es)) : x ∉ C ∧ B.length < P ∧ EvI P (C ++ [x]) (B ++ [x]) G es := by
  obtain ⟨⟨h1, h2⟩, h3⟩ := i.tt
  refine ⟨h1, h2, h3, ?_, fun y hy => ?_, fun y hy => List.mem_append_left _ (i.gc y hy), fun y hy => ?_, ?_⟩
  · exact List.nodup_append.mpr ⟨i.nB, List.nodup_cons.mpr ⟨List.not_mem_nil, List.nodup_nil⟩, fun a ha b hb e => by
      rw [List.mem_singleton.mp hb] at e
      exact h1 (e ▸ i.bc a ha)⟩
  · rcases List.mem_append.mp hy with z | z
    · exact List.mem_append_left _ (i.bc y z)
    · exact List.mem_append_right _ z
  · rcases List.mem_append.mp hy with z | z
    · exact i.gb y z
    · rw [List.mem_singleton.mp z]
      exact fun w => h1 (i.gc x w)
  · have := i.len
    rw [List.length_append, List.length_append]
    show G.length + (B.length + 1) = C.length + 1
    omega
theorem EvI.out {P : Nat} {C B G : List Str} {x : Str} {es : List (Bool × Str)} (i : EvI P C B G ((false, x) :: es)) : x ∈ C ∧ x ∉ G ∧ EvI P C (B.erase x) (G ++ [x]) es := by
  obtain ⟨h1, h3⟩ := i.tt
  have h1 : x ∈ B := h1
  refine ⟨i.bc x h1, i.gb x h1, h3, i.nB.erase x, fun y hy => i.bc y (List.mem_of_mem_erase hy), fun y hy => ?_, fun y hy => ?_, ?_⟩
  · rcases List.mem_append.mp hy with z | z
    · exact i.gc y z
    · rw [List.mem_singleton.mp z]
      exact i.bc x h1
  · intro z
    rcases List.mem_append.mp z with z | z
    · exact i.gb y (List.mem_of_mem_erase hy) z
    · rw [List.mem_singleton.mp z] at hy
      exact i.nB.not_mem_erase hy
  · have := i.len
    have l1 := List.length_erase_of_mem h1
    have : 0 < B.length := List.length_pos_of_mem h1
    rw [List.length_append, l1]
    show G.length + 1 + (B.length - 1) = C.length
    omega
theorem wd_1 : ¬ V.str (wd true) = V.str "out" := by decide +kernel
theorem wd_2 : ¬ V.str (wd false) = V.str "in" := by decide +kernel
theorem mem_aget {β : Type} {l : List (Str × β)} {x : Str} (h : x ∈ l.map (·.1)) : (aget l x).isSome = true := aget_isSome.mpr h
theorem not_aget {β : Type} {l : List (Str × β)} {x : Str} (h : x ∉ l.map (·.1)) : (aget l x).isSome = false := by
  cases e : (aget l x).isSome with
  | false => rfl
  | true => exact absurd (aget_isSome.mp e) h
def sp_event_fault (K : PySem.W.Frag) (Z : Za) : Sp := fun vs H Q _ => ∃ (t : Addr) (p : Nat) (evs : List (Bool × Str)), vs = [.ref t, .int (p : Int)] ∧ TimAt K H t evs ∧ TT p [] [] evs ∧ (∀ e ∈ evs, NameOk e.2) ∧ evs.length ≤ 100 ∧
  ∀ H', Same H H' → Q .non H'
theorem c_event_fault {f : Addr} {fd : FuncData} (F : Fun K "event_fault" "event_fault" s_event_fault f fd) (g : mg "event_fault" = some (.ref f)) (T : Bl mg) (c_is_event : Cal P w K mg base 3 "is_event" ["value"] (sp_is_event K Z))  : Cal P w K mg base 4 "event_fault" ["events", "most"] (sp_event_fault K Z) := by
  refine ⟨f, fd, g, F.kp, F.binds (ps := ["events", "most"]) fun _ _ _ _ _ _ us hl => match us, hl with | [_, _], _ => rfl, F.ok sc_event_fault (fun vs H Q E h => ?_) (fun cdv A outer s H vs Q E hr h => ?_)⟩
  · obtain ⟨t, p, evs, rfl, _⟩ := h
    rfl
  · obtain ⟨t, p, evs, rfl, ⟨xs, ht, hd⟩, tt, hn, hl, k⟩ := h
    have hu := hu_of hr
    refine ⟨_, (pss_cons (ps_par (i := 2) (j := 3) (by rfl) sc_event_fault.nd rfl rfl (by decide) rfl rfl (pa_cons pe_dnewK (pa_cons pe_dnewK pa_nil)) (by rfl))
      (pss_cons (ps_for PassesOwn.never rfl (pi_enumT (by rfl) T.b_enumerate (pa_cons (pv 0) pa_nil)) (pg_tup rfl (pgs_cons (pg_name (i := 4) sc_event_fault.nd rfl (.inl rfl)) (pgs_cons (pg_name (i := 5) sc_event_fault.nd rfl (.inl rfl)) pgs_nil)))
        (pss_cons (ps_if (pt_not (pt_val (pe_cal c_is_event (hr.mono (by decide)) (by rfl) (pa_cons (pv 5) pa_nil))))
          (pss_one (ps_ret (pv 4)))
          pss_nil)
        (pss_cons (ps_asg (pv 5) (pg_tup rfl (pgs_cons (pg_name (i := 6) sc_event_fault.nd rfl (.inl rfl)) (pgs_cons (pg_name (i := 7) sc_event_fault.nd rfl (.inl rfl)) pgs_nil))))
        (pss_cons (ps_set (i := 8) sc_event_fault.nd rfl (.inl rfl) (pe_and (pe_cmpR op_notN (pv 1) pe_non (nomark _)) (pe_one (pe_cmpR op_ge (pe_op op_sub (pe_callB call_lenD (by rfl) T.b_len PySem.boot_len (pa_cons (pv 2) pa_nil)) (pe_callB call_lenD (by rfl) T.b_len PySem.boot_len (pa_cons (pv 3) pa_nil))) (pv 1) (nomark _)))))
        (pss_cons (ps_if (PW.pt (pw_and (pt_cmpR op_eq (pv 6) pe_str (nomark _)) (pw_and1 (PW.pt (pw_or (pt_cmp (pc_din hu (pv 7) (pv 2))) (pw_or1 (pt_val (pv 8))))))))
          (pss_one (ps_ret (pv 4)))
          pss_nil)
        (pss_cons (ps_if (PW.pt (pw_and (pt_cmpR op_eq (pv 6) pe_str (nomark _)) (pw_and1 (PW.pt (pw_or (pt_cmp (pc_dnotin hu (pv 7) (pv 2))) (pw_or1 (pt_cmp (pc_din hu (pv 7) (pv 3)))))))))
          (pss_one (ps_ret (pv 4)))
          pss_nil)
        (pss_one (ps_if (pt_cmpR op_eq (pv 6) pe_str (nomark _))
          (pss_one (ps_dput hu (pv 2) (pv 7) pe_bl rfl))
          (pss_one (ps_dput hu (pv 3) (pv 7) pe_bl rfl))))))))))
      (pss_one (ps_ret pe_non)))), ?_⟩
    refine fun d1 n1 d2 n2 => ⟨_, _, rfl, ?_⟩
    have s1 : Same H (upd (upd H d1 (.dK [])) d2 (.dK [])) := (same_new n1).trans (same_new n2)
    have n12 : d1 ≠ d2 := ne_of_none upd_same n2
    have hlen := DtAll.length hd
    rw [List.length_map] at hlen
    refine ⟨_, rfl, t, _, rfl, tex s1 _ _ ht, for_it walk_enumT (fun i σ H2 => ∃ v4 v5 v6 v7 v8 l1 l2 B, σ = [some (.ref t), some (.int (p : Int)), some (.ref d1), some (.ref d2), v4, v5, v6, v7, v8] ∧ Same H H2 ∧ DK K H2 d1 l1 ∧ DK K H2 d2 l2 ∧
      l1.length ≤ i ∧ l2.length ≤ i ∧ EvI p (l1.map (·.1)) B (l2.map (·.1)) (evs.drop i)) ⟨_, _, _, _, _, [], [], [], rfl, s1, .nil (by rw [upd_ne n12]; exact upd_same), .nil upd_same, Nat.le_refl _, Nat.le_refl _, ⟨tt, List.nodup_nil, (fun x hx => nomatch hx), (fun x hx => nomatch hx), (fun x hx => nomatch hx), rfl⟩⟩ (fun i σ H2 _ ⟨_, _, _, _, _, _, _, _, _, s2, _⟩ => tex s2 _ _ ht) ?_ ?_⟩
    · rintro i x σ H2 H3 hi ⟨v4, v5, v6, v7, v8, l1, l2, B, rfl, s2, D1, D2, b1, b2, I⟩ ⟨q, x1, x2, rfl, nq, rfl, e1, e2⟩
      obtain rfl : V.int (i : Int) = x1 := Option.some.inj e1
      have s3 := same_new (o := .tup [.int (i : Int), x2]) nq
      have hi' : i < evs.length := by omega
      obtain ⟨dd, hdd, dt⟩ := DtAll.get hd e2
      rw [List.getElem?_map, List.getElem?_eq_getElem hi'] at hdd
      cases Option.some.inj hdd
      obtain ⟨tt', rfl, sq⟩ := ev_inv dt
      have sq3 := tex s3 _ _ (tex s2 _ _ sq)
      refine ⟨q, [.int (i : Int), .ref tt'], rfl, .inl (.inl upd_same), rfl, _, _, rfl, _, _, rfl, rfl, ?_⟩
      refine ⟨_, rfl, tt', _, rfl, sq3, hn _ (List.getElem_mem hi'), fun H4 s4 => ⟨true, rfl, iteF ?_⟩⟩
      refine ⟨_, rfl, tt', _, rfl, tex s4 _ _ sq3, rfl, _, _, rfl, _, _, rfl, rfl, ?_⟩
      have D1' := D1.same (s3.trans s4)
      have D2' := D2.same (s3.trans s4)
      obtain ⟨k1, hk1, lk1⟩ := D1'.len
      obtain ⟨k2, hk2, lk2⟩ := D2'.len
      refine ⟨_, rfl, rfl, true, rfl, iteT ?_⟩
      refine ⟨_, rfl, d1, k1, rfl, hk1, _, rfl, d2, k2, rfl, hk2, _, _, rfl, rfl, _, rfl, _, _, rfl, rfl, ?_⟩
      have hdrop : evs.drop i = evs[i] :: evs.drop (i + 1) := List.drop_eq_getElem_cons hi'
      have sA : Same H H4 := s2.trans (s3.trans s4)
      generalize evs[i] = e at I hdrop sq
      rw [hdrop] at I
      obtain ⟨eb, ex⟩ := e
      obtain ⟨r1, g1, is1, _⟩ := D1'.dget ex
      obtain ⟨r2, g2, is2, _⟩ := D2'.dget ex
      have hIl := I.len
      rw [List.length_map, List.length_map] at hIl
      cases eb with
      | true =>
        obtain ⟨j1, j2, j3⟩ := I.inn
        refine ⟨_, rfl, rfl, true, blT rfl, iteT ?_⟩
        refine ⟨_, rfl, _, rfl, d1, r1, rfl, g1, false, congrArg V.bl (is1.trans (not_aget j1)), iteF ?_⟩
        refine ⟨_, rfl, false, blF (by omega), iteF ?_⟩
        refine ⟨_, rfl, rfl, false, blF wd_1, iteF ?_⟩
        refine ⟨_, rfl, rfl, true, blT rfl, iteT ?_⟩
        obtain ⟨o, p1, p2, p3⟩ := D1'.dput ex (.bl true) (by omega)
        refine ⟨_, rfl, _, rfl, d1, _, rfl, p1, ?_⟩
        refine ⟨_, _, _, _, _, aput l1 ex (.bool true), l2, B ++ [ex], rfl, fun b o' ob => ?_, p2, D2'.mono p3 (fun o' ob => by rw [upd_ne n12.symm]; exact ob), Nat.le_trans (aput_len _ _ _) (by omega), by omega, ?_⟩
        · rw [upd_ne (ne_of_none ob n1)]
          exact sA _ _ ob
        · rw [aput_keys, if_neg j1]
          exact j3
      | false =>
        obtain ⟨j1, j2, j3⟩ := I.out
        refine ⟨_, rfl, rfl, false, blF wd_2, iteF ?_⟩
        refine ⟨_, rfl, rfl, true, blT rfl, iteT ?_⟩
        refine ⟨_, rfl, _, rfl, d1, r1, rfl, g1, false, congrArg (fun b => V.bl !b) (is1.trans (mem_aget j1)), iteF ?_⟩
        refine ⟨_, rfl, _, rfl, d2, r2, rfl, g2, false, congrArg V.bl (is2.trans (not_aget j2)), iteF ?_⟩
        refine ⟨_, rfl, rfl, false, blF wd_2, iteF ?_⟩
        obtain ⟨o, p1, p2, p3⟩ := D2'.dput ex (.bl true) (by omega)
        refine ⟨_, rfl, _, rfl, d2, _, rfl, p1, ?_⟩
        refine ⟨_, _, _, _, _, l1, aput l2 ex (.bool true), B.erase ex, rfl, fun b o' ob => ?_, D1'.mono p3 (fun o' ob => by rw [upd_ne n12]; exact ob), p2, by omega, Nat.le_trans (aput_len _ _ _) (by omega), ?_⟩
        · rw [upd_ne (ne_of_none ob (Same.free (same_new n1) n2))]
          exact sA _ _ ob
        · rw [aput_keys, if_neg j2]
          exact j3
    · rintro σ H2 ⟨v4, v5, v6, v7, v8, l1, l2, B, rfl, s2, _⟩
      exact k H2 s2
def sp_need_timetable (K : PySem.W.Frag) (Z : Za) : Sp := fun vs H Q _ => ∃ (y t : Addr) (h : List Nat) (evs : List (Bool × Str)), vs = [.ref y, .ref t] ∧ YardAt K Z H y h ∧ TimAt K H t evs ∧ TT h.sum [] [] evs ∧ (∀ e ∈ evs, NameOk e.2) ∧ evs.length ≤ 100 ∧
  ∀ H', Same H H' → Q .non H'
theorem c_need_timetable {f : Addr} {fd : FuncData} (F : Fun K "need_timetable" "need_timetable" s_need_timetable f fd) (g : mg "need_timetable" = some (.ref f)) (T : Bl mg) (c_event_fault : Cal P w K mg base 4 "event_fault" ["events", "most"] (sp_event_fault K Z)) (c_places : Cal P w K mg base 1 "places" ["yard"] (sp_places K Z))  : Cal P w K mg base 5 "need_timetable" ["yard", "value"] (sp_need_timetable K Z) := by
  refine ⟨f, fd, g, F.kp, F.binds (ps := ["yard", "value"]) fun _ _ _ _ _ _ us hl => match us, hl with | [_, _], _ => rfl, F.ok sc_need_timetable (fun vs H Q E h => ?_) (fun cdv A outer s H vs Q E hr h => ?_)⟩
  · obtain ⟨y, t, h, evs, rfl, _⟩ := h
    rfl
  · obtain ⟨y, t, h, evs, rfl, hy, ht, tt, hn, hl, k⟩ := h
    refine ⟨_, (pss_cons (ps_if (pt_not (pt_val (pe_callB call_isi (by rfl) T.b_isinstance (by decide +kernel) (pa_cons (pv 1) (pa_cons (pe_bltn (v := .ty "tuple") (by rfl) T.b_tuple (by decide +kernel) rfl) pa_nil)))))
        (pss_one ps_never)
        pss_nil)
      (pss_cons (ps_set (i := 2) sc_need_timetable.nd rfl (.inl rfl) (pe_cal c_event_fault (hr.mono (by decide)) (by rfl) (pa_cons (pv 1) (pa_cons (pe_cal c_places (hr.mono (by decide)) (by rfl) (pa_cons (pv 0) pa_nil)) pa_nil))))
      (pss_one (ps_if (pt_cmpR op_notN (pv 2) pe_non (nomark _))
        (pss_one ps_never)
        pss_nil)))), ?_⟩
    refine ⟨_, rfl, _, _, _, _, true, rfl, .ty _, ty_tup ht.choose_spec.1, kit_ty (by decide +kernel), true, rfl, iteF ?_⟩
    refine ⟨_, rfl, _, rfl, y, h, rfl, hy, t, h.sum, evs, rfl, ht, tt, hn, hl, fun H1 s1 => ?_⟩
    refine ⟨_, rfl, rfl, false, rfl, iteF ?_⟩
    exact k H1 s1
def sp_need_state (K : PySem.W.Frag) (Z : Za) : Sp := fun vs H Q _ => ∃ (t : Addr) (evs : List (Bool × Str)) (s : Nat), vs = [.ref t, .int (s : Int)] ∧ TimAt K H t evs ∧ s ≤ evs.length ∧ Q .non H
theorem c_need_state {f : Addr} {fd : FuncData} (F : Fun K "need_state" "need_state" s_need_state f fd) (g : mg "need_state" = some (.ref f)) (T : Bl mg) (c_need_number : Cal P w K mg base 3 "need_number" ["value", "bound", "word"] (sp_need_number K Z))  : Cal P w K mg base 4 "need_state" ["timetable", "state"] (sp_need_state K Z) := by
  refine ⟨f, fd, g, F.kp, F.binds (ps := ["timetable", "state"]) fun _ _ _ _ _ _ us hl => match us, hl with | [_, _], _ => rfl, F.ok sc_need_state (fun vs H Q E h => ?_) (fun cdv A outer s H vs Q E hr h => ?_)⟩
  · obtain ⟨t, evs, s, rfl, _⟩ := h
    rfl
  · obtain ⟨t, evs, n, rfl, ⟨xs, ht, hd⟩, hs, k⟩ := h
    have hlen := DtAll.length hd
    rw [List.length_map] at hlen
    refine ⟨_, (pss_one (ps_expr (pe_cal c_need_number (hr.mono (by decide)) (by rfl) (pa_cons (pv 1) (pa_cons (pe_op op_add (pe_callB call_len_seq (by rfl) T.b_len PySem.boot_len (pa_cons (pv 0) pa_nil)) pe_int) (pa_cons pe_str pa_nil)))))), ?_⟩
    exact ⟨_, rfl, _, rfl, t, _, rfl, .inr ht, _, _, rfl, rfl, _, _, _, rfl, by omega, by omega, k⟩
end
end K19
end

section
set_option Elab.async false
set_option linter.all false
set_option maxRecDepth 100000
set_option maxHeartbeats 4000000
/-! W4: states, free places, the table of presences, what is owed. -/
namespace K19
open PySem L2 K19M
section
variable {K : PySem.W.Frag} {H H' H2 : Hp}
/-- all but d stand -/
def But (d : Addr) (H H' : Hp) : Prop := ∀ b o, H b = some o → b ≠ d → H' b = some o
theorem unlock {d : Addr} {u : HO} (e : H d = some u) (s : But d H H') : Same H (upd H' d u) := fun b o h => by
  by_cases q : b = d
  · rw [q, upd_same, ← e, ← q]
    exact h
  · rw [upd_ne q]
    exact s b o h q
theorem lock_but {d : Addr} {u : HO} : But d H (upd H d u) := fun b o h q => by
  rw [upd_ne q]
  exact h
theorem But.same {d : Addr} (s : But d H H') (t : Same H' H2) : But d H H2 := fun b o h q => t _ _ (s b o h q)
theorem Same.app {b : Addr} {o : HO} (s : Same H H') (h : H b = some o) : H' b = some o := s b o h
theorem slA_take {a : Addr} {xs : List V} {s : Nat} (ha : SqT K H a xs) (hs : s ≤ xs.length) {Q : VK} (k : ∀ q H', Same H H' → SqT K H' q (xs.take s) → Q (.ref q) H') : rSlA K (.ref a) none (some (s : Int)) H Q := by
  have e1 : HT.sIx xs.length xs.length (some (s : Int)) = s := by
    rw [HT.sIx_nat]
    exact Nat.min_eq_left hs
  have e0 : HT.sIx xs.length 0 none = 0 := rfl
  refine ⟨a, xs, rfl, ha, fun z => ?_, fun z p np => ?_⟩
  · rw [e1] at z
    have : xs.take s = xs := List.take_of_length_le (by omega)
    exact k a H same_refl (by rw [this]; exact ha)
  · refine k p _ (same_new np) (.inl (.inl ?_))
    rw [upd_same]
    unfold cutV
    rw [e1, e0]
    rfl
theorem fm_take {β γ : Type} (p : β → Bool) (f : β → γ) {l : List β} {i : Nat} {e : β} (h : l[i]? = some e) : ((l.take (i + 1)).filter p).map f = ((l.take i).filter p).map f ++ (if p e = true then [f e] else []) := by
  rw [List.take_add_one, h, List.filter_append, List.map_append]
  congr 1
  show List.map f (List.filter p [e]) = _
  rw [List.filter_cons]
  by_cases q : p e = true
  · rw [if_pos q, if_pos q]
    rfl
  · rw [if_neg q, if_neg q]
    rfl
theorem aput_map {α β γ : Type} [DecidableEq α] (f : β → γ) (l : List (α × β)) (x : α) (b : β) : aput (l.map fun p => (p.1, f p.2)) x (f b) = (aput l x b).map fun p => (p.1, f p.2) := by
  have ek : (l.map fun p => (p.1, f p.2)).map (·.1) = l.map (·.1) := by
    rw [List.map_map]
    rfl
  by_cases q : x ∈ l.map (·.1)
  · rw [aput_old _ q, aput_old _ (by rw [ek]; exact q), List.map_map, List.map_map]
    refine List.map_congr_left fun e _ => ?_
    show (if e.1 = x then (e.1, f b) else (e.1, f e.2)) = ((if e.1 = x then (e.1, b) else e).1, f (if e.1 = x then (e.1, b) else e).2)
    split <;> rfl
  · rw [aput_new _ q, aput_new _ (by rw [ek]; exact q), List.map_append]
    rfl
theorem aget_map {α β γ : Type} [DecidableEq α] (f : β → γ) (l : List (α × β)) (x : α) : aget (l.map fun p => (p.1, f p.2)) x = (aget l x).map f := by
  induction l with
  | nil => rfl
  | cons e l ih =>
    unfold aget at ih ⊢
    rw [List.map_cons, List.find?_cons, List.find?_cons]
    by_cases q : e.1 = x
    · rw [decide_eq_true q]
      rfl
    · rw [decide_eq_false q]
      exact ih
/-- who is said to be there -/
def thereB (es : List (Bool × Str)) : List (Str × Bool) := es.foldl (fun l e => aput l e.2 e.1) []
def hereL (es : List (Bool × Str)) : List Str := ((thereB es).filter (·.2)).map (·.1)
theorem thereB_app (es : List (Bool × Str)) (e : Bool × Str) : thereB (es ++ [e]) = aput (thereB es) e.2 e.1 := by
  unfold thereB
  rw [List.foldl_append]
  rfl
theorem there_nd (es : List (Bool × Str)) : ((thereB es).map (·.1)).Nodup ∧ (thereB es).length ≤ es.length ∧ ∀ x ∈ (thereB es).map (·.1), x ∈ es.map (·.2) := by
  have key : ∀ (es : List (Bool × Str)) (l : List (Str × Bool)), (l.map (·.1)).Nodup → (((es.foldl (fun l e => aput l e.2 e.1) l).map (·.1)).Nodup ∧ (es.foldl (fun l e => aput l e.2 e.1) l).length ≤ l.length + es.length ∧
      ∀ x ∈ (es.foldl (fun l e => aput l e.2 e.1) l).map (·.1), x ∈ l.map (·.1) ∨ x ∈ es.map (·.2)) := by
    intro es
    induction es with
    | nil => exact fun l nd => ⟨nd, Nat.le_refl _, fun x hx => .inl hx⟩
    | cons e es ih =>
      intro l nd
      obtain ⟨a, b, c⟩ := ih (aput l e.2 e.1) (aput_nd _ _ nd)
      refine ⟨a, ?_, fun x hx => ?_⟩
      · have := aput_len l e.2 e.1
        refine Nat.le_trans b ?_
        rw [List.length_cons]
        omega
      · rcases c x hx with z | z
        · rw [aput_keys] at z
          split at z
          · exact .inl z
          · rcases List.mem_append.mp z with z | z
            · exact .inl z
            · rw [List.mem_singleton.mp z]
              exact .inr List.mem_cons_self
        · exact .inr (List.mem_cons_of_mem _ z)
  obtain ⟨a, b, c⟩ := key es [] List.nodup_nil
  refine ⟨a, Nat.le_trans b (by rw [List.length_nil, Nat.zero_add]; exact Nat.le_refl _), fun x hx => ?_⟩
  rcases c x hx with z | z
  · cases z
  · exact z
theorem hereL_nd (es : List (Bool × Str)) : (hereL es).Nodup := List.Nodup.sublist (List.Sublist.map _ List.filter_sublist) (there_nd es).1
theorem hereL_len (es : List (Bool × Str)) : (hereL es).length ≤ es.length := by
  unfold hereL
  rw [List.length_map]
  exact Nat.le_trans (List.length_filter_le _ _) (there_nd es).2.1
theorem hereL_mem {es : List (Bool × Str)} {x : Str} (h : x ∈ hereL es) : x ∈ es.map (·.2) := by
  obtain ⟨p, hp, rfl⟩ := List.mem_map.mp h
  exact (there_nd es).2.2 _ (List.mem_map.mpr ⟨p, (List.mem_filter.mp hp).1, rfl⟩)
def thereD (es : List (Bool × Str)) : List (Str × PyData) := (thereB es).map fun p => (p.1, .bool p.2)
theorem tk_get {l : List (Str × V)} {i : Nat} {k v : V} (h1 : ((tk l)[i]?.map fun kv => kV kv.1) = some k) (h2 : (tk l)[i]?.map Prod.snd = some v) : ∃ x, l[i]? = some (x, v) ∧ k = .str x := by
  unfold tk at h1 h2
  rw [List.getElem?_map] at h1 h2
  cases e : l[i]? with
  | none =>
    rw [e] at h1
    cases h1
  | some p =>
    rw [e] at h1 h2
    obtain ⟨x, y⟩ := p
    have q1 : V.str x = k := Option.some.inj h1
    have q2 : y = v := Option.some.inj h2
    exact ⟨x, by rw [q2], q1.symm⟩
theorem tk_len {β : Type} (l : List (Str × β)) : (tk l).length = l.length := by
  unfold tk
  rw [List.length_map]
/-- an entry of such a dict -/
theorem dk_at {l' : List (Str × V)} {l : List (Str × PyData)} (h1 : l'.map (·.1) = l.map (·.1)) (h2 : DtAll K H (l'.map (·.2)) (l.map (·.2))) {i : Nat} {x : Str} {v : V} (e : l'[i]? = some (x, v)) : ∃ b, l[i]? = some (x, b) ∧ Dt K H v b := by
  have e1 : (l'.map (·.2))[i]? = some v := by
    rw [List.getElem?_map, e]
    rfl
  obtain ⟨b, hb, q⟩ := DtAll.get h2 e1
  rw [List.getElem?_map] at hb
  have e2 : (l.map (·.1))[i]? = some x := by
    rw [← h1, List.getElem?_map, e]
    rfl
  rw [List.getElem?_map] at e2
  cases z : l[i]? with
  | none =>
    rw [z] at hb
    cases hb
  | some p =>
    rw [z] at hb e2
    obtain ⟨p1, p2⟩ := p
    cases Option.some.inj hb
    cases Option.some.inj e2
    exact ⟨_, rfl, q⟩
/-! ### the counts -/
theorem hV_app (a b : List Nat) : hV (a ++ b) = hV a ++ hV b := by
  unfold hV zs
  rw [List.map_append, List.map_append]
theorem at_neg1 {xs : List V} {n : Nat} {v : V} (hl : xs.length = n + 1) (e : xs[n]? = some v) : atI xs (-1) = some v := by
  unfold atI
  have : ixN xs.length (-1) = some n := by
    unfold ixN
    rw [hl, if_neg (by decide), if_pos (by omega)]
    congr 1
    omega
  rw [this]
  exact e
theorem foldl_zs : ∀ (l : List Nat) (a : Nat), (zs l).foldl max (a : Int) = ((l.foldl max a : Nat) : Int)
  | [], a => rfl
  | n :: l, a => by
    show (zs l).foldl max (max (a : Int) (n : Int)) = ((l.foldl max (max a n) : Nat) : Int)
    rw [show max (a : Int) (n : Int) = ((max a n : Nat) : Int) by omega]
    exact foldl_zs l _
theorem maxH_cons (a : Nat) (l : List Nat) : maxH (a :: l) = l.foldl max a := by
  show l.foldl max (max 0 a) = _
  rw [Nat.zero_max]
theorem owed_take {h : List Nat} {i n : Nat} (u : Nat) (e : h[i]? = some n) : zs ((h.take (i + 1)).map fun n => n - u) = zs ((h.take i).map fun n => n - u) ++ [((n - u : Nat) : Int)] := by
  unfold zs
  rw [List.take_add_one, e, List.map_append, List.map_append]
  rfl
/-- the table as data -/
def tabD (tab : List (Str × Nat × Nat)) : List (Str × PyData) := tab.map fun p => (p.1, .tuple [.int (p.2.1 : Int), .int (p.2.2 : Int)])
theorem pair_inv {v : V} {a b : Int} (h : Dt K H v (.tuple [.int a, .int b])) : ∃ t, v = .ref t ∧ SqT K H t [.int a, .int b] := by
  obtain ⟨t, xs, rfl, s, q0⟩ := Dt.tup_inv h
  obtain ⟨v1, r1, rfl, d1, q1⟩ := DtAll.cons_inv q0
  obtain ⟨v2, r2, rfl, d2, q2⟩ := DtAll.cons_inv q1
  cases Dt.int_inv d1
  cases Dt.int_inv d2
  cases DtAll.nil_inv q2
  exact ⟨t, rfl, s⟩
theorem pair_new {p : Addr} {a b : Int} : Dt K (upd H p (.tup [.int a, .int b])) (.ref p) (.tuple [.int a, .int b]) := ref_new upd_same (.cons (.int _) (.cons (.int _) .nil))
end
section
variable {P : Program} {w : World} {K : PySem.W.Frag} {mg : Str → Option Value} {base : Heap} {Z : Za}
def sp_state_boxes (K : PySem.W.Frag) (Z : Za) : Sp := fun vs H Q _ => ∃ (t : Addr) (evs : List (Bool × Str)) (s : Nat), vs = [.ref t, .int (s : Int)] ∧ TimAt K H t evs ∧ s ≤ evs.length ∧ evs.length ≤ 100 ∧
  ∀ H' p, Same H H' → SqT K H' p ((sortT (hereL (evs.take s))).map V.str) → Q (.ref p) H'
theorem c_state_boxes {f : Addr} {fd : FuncData} (F : Fun K "state_boxes" "state_boxes" s_state_boxes f fd) (g : mg "state_boxes" = some (.ref f)) (T : Bl mg) (c_need_state : Cal P w K mg base 4 "need_state" ["timetable", "state"] (sp_need_state K Z)) (c_lot_of : Cal P w K mg base 1 "lot_of" ["things"] (sp_lot_of K Z))  : Cal P w K mg base 5 "state_boxes" ["timetable", "state"] (sp_state_boxes K Z) := by
  refine ⟨f, fd, g, F.kp, F.binds (ps := ["timetable", "state"]) fun _ _ _ _ _ _ us hl => match us, hl with | [_, _], _ => rfl, F.ok sc_state_boxes (fun vs H Q E h => ?_) (fun cdv A outer s H vs Q E hr h => ?_)⟩
  · obtain ⟨t, evs, s, rfl, _⟩ := h
    rfl
  · obtain ⟨t, evs, n, rfl, ht, hs, hl, k⟩ := h
    have hu := hu_of hr
    obtain ⟨xs, hx, hd⟩ := id ht
    have hlen := DtAll.length hd
    rw [List.length_map] at hlen
    refine ⟨_, (pss_cons (ps_expr (pe_cal c_need_state (hr.mono (by decide)) (by rfl) (pa_cons (pv 0) (pa_cons (pv 1) pa_nil))))
      (pss_cons (ps_set (i := 2) sc_state_boxes.nd rfl (.inl rfl) pe_dnewK)
      (pss_cons (ps_for PassesOwn.never rfl (pi_tup (pe_slice sl_tupA (pv 0) po_none (po_some (pv 1)))) (pg_tup rfl (pgs_cons (pg_name (i := 3) sc_state_boxes.nd rfl (.inl rfl)) (pgs_cons (pg_name (i := 4) sc_state_boxes.nd rfl (.inl rfl)) pgs_nil)))
        (pss_one (ps_dput hu (pv 2) (pv 4) (pe_cmpR op_eq (pv 3) pe_str (nomark _)) rfl)))
      (pss_one (ps_ret (pe_cal c_lot_of (hr.mono (by decide)) (by rfl) (pa_cons (pe_lock (pe_lc (g := (gTup K 2 (gCons (gName 4) (gCons (gName 5) gNil)))) (own := [("box", 4), ("here", 5)]) rfl sc_state_boxes.nd (pi_items (pv 2)) (blkOk_by (own := [("box", 4), ("here", 5)]) (N := n_state_boxes) (sc := defScope s_state_boxes) (by decide +kernel)) (fun _ _ _ _ _ => (pg_tup rfl (pgs_cons (pg_name (i := 4) sc_state_boxes.nd rfl (.inl rfl) (.inr rfl)) (pgs_cons (pg_name (i := 5) sc_state_boxes.nd rfl (.inl rfl) (.inr rfl)) pgs_nil)))) (fun _ _ _ _ _ => (pts_one (pt_val (pv 5)))) (fun _ _ _ _ _ => (pv 4)))) pa_nil))))))), ?_⟩
    refine ⟨_, rfl, _, rfl, t, evs, n, rfl, ht, hs, fun d nd => ?_⟩
    have s1 := same_new (o := .dK []) nd
    refine ⟨_, rfl, _, rfl, _, rfl, slA_take (tex s1 _ _ hx) (by omega) fun q H1 s2 hq => ⟨q, rfl, ⟨_, hq⟩, ?_⟩⟩
    refine for_it walk_tup (fun i σ H2 => ∃ v3 v4 v5, σ = [some (.ref t), some (.int (n : Int)), some (.ref d), v3, v4, v5] ∧ Same H H2 ∧ SqT K H2 q (xs.take n) ∧ DK K H2 d (thereD ((evs.take n).take i))) ⟨_, _, _, rfl, s1.trans s2, hq, .nil (s2 _ _ upd_same)⟩ (fun i σ H2 _ ⟨_, _, _, _, _, z, _⟩ => z) ?_ ?_
    · rintro i x σ H2 H3 hi ⟨v3, v4, v5, rfl, s3, hq3, D⟩ ⟨rfl, hx⟩
      have hdt := DtAll.take n hd
      rw [← List.map_take] at hdt
      obtain ⟨b, hb, dt⟩ := DtAll.get hdt hx
      rw [List.getElem?_map] at hb
      obtain ⟨e, he, rfl⟩ := Option.map_eq_some_iff.mp hb
      obtain ⟨tt, rfl, sq⟩ := ev_inv dt
      refine ⟨tt, _, rfl, tex s3 _ _ sq, rfl, _, _, rfl, _, _, rfl, rfl, ?_⟩
      refine ⟨_, rfl, rfl, ?_⟩
      have hb2 : V.bl (decide (V.str (wd e.1) = V.str "in")) = V.bl e.1 := by
        cases e.1
        · exact blF wd_2
        · exact blT rfl
      rw [hb2]
      have bl := (there_nd ((evs.take n).take i)).2.1
      have bl2 : ((evs.take n).take i).length ≤ 100 := by
        rw [List.length_take, List.length_take]
        omega
      obtain ⟨o, p1, p2, p3⟩ := D.dput e.2 (.bl e.1) (by unfold thereD; rw [List.length_map]; omega)
      refine ⟨_, rfl, _, rfl, d, _, rfl, p1, _, _, _, rfl, fun b o' ob => ?_, p3 _ _ hq3, ?_⟩
      · rw [upd_ne (ne_of_none ob nd)]
        exact s3 _ _ ob
      · have : thereD ((evs.take n).take (i + 1)) = aput (thereD ((evs.take n).take i)) e.2 (.bool e.1) := by
          unfold thereD
          rw [aput_map PyData.bool, ← thereB_app, List.take_add_one (i := i), he]
          rfl
        rw [this]
        exact p2
    · rintro σ H2 ⟨v3, v4, v5, rfl, s3, hq3, D⟩
      have hfull : (evs.take n).take (xs.take n).length = evs.take n := List.take_of_length_le (by rw [List.length_take, List.length_take]; omega)
      rw [hfull] at D
      obtain ⟨l', d1, d2, d3⟩ := D
      refine ⟨d, _, d1, trivial, fun od => ?_⟩
      have b0 : But d H2 (upd H2 d (.frz od (.dK (tk l')))) := lock_but
      refine ⟨_, rfl, d, od, _, rfl, upd_same, fun D nD => ?_⟩
      have hDd : D ≠ d := fun z => by
        rw [z, upd_same] at nD
        cases nD
      refine lc_it walk_items (fun i H4 => But d H2 H4 ∧ H4 d = some (.frz od (.dK (tk l'))) ∧ H4 D = some (.lst (((((thereB (evs.take n)).take i).filter (·.2)).map (·.1)).map V.str))) ⟨b0.same (same_new nD), by rw [upd_ne hDd.symm]; exact upd_same, upd_same⟩ (fun i H4 _ z => z.2.1) ?_ ?_
      · rintro i x H4 H5 hi ⟨b4, f4, a4⟩ ⟨p, x1, x2, rfl, np, rfl, e1, e2⟩
        obtain ⟨y, hy, rfl⟩ := tk_get e1 e2
        obtain ⟨b, hb, dt⟩ := dk_at d2 d3 hy
        unfold thereD at hb
        rw [List.getElem?_map] at hb
        obtain ⟨⟨y', bb⟩, hb', eb⟩ := Option.map_eq_some_iff.mp hb
        obtain ⟨rfl, rfl⟩ := Prod.mk.inj eb
        have ev : x2 = .bl bb := by
          cases dt
          rfl
        subst ev
        refine ⟨p, [.str y', .bl bb], rfl, .inl (.inl upd_same), rfl, _, _, rfl, _, _, rfl, rfl, rfl, ?_⟩
        refine ⟨_, rfl, bb, rfl, ?_⟩
        have sp := same_new (o := .tup [.str y', .bl bb]) np
        have lenb : ((((thereB (evs.take n)).take i).filter (·.2)).map (·.1)).length ≤ 100 := by
          rw [List.length_map]
          refine Nat.le_trans (List.length_filter_le _ _) (Nat.le_trans (List.length_take_le' _ _) (Nat.le_trans (there_nd _).2.1 ?_))
          rw [List.length_take]
          omega
        cases bb with
        | true =>
          refine iteT ⟨_, rfl, _, sp _ _ a4, by rw [List.length_map]; exact small1000 (by omega), fun b o hb hn => ?_, ?_, ?_⟩
          · rw [upd_ne (fun z => by rw [z] at hb; rw [upd_ne hDd] at nD; rw [nD] at hb; cases hb)]
            exact sp _ _ (b4 b o hb hn)
          · rw [upd_ne hDd.symm]
            exact sp _ _ f4
          · rw [upd_same, fm_take _ _ hb', if_pos rfl, List.map_append]
            rfl
        | false =>
          refine iteF ⟨fun b o hb hn => sp _ _ (b4 b o hb hn), sp _ _ f4, ?_⟩
          rw [fm_take _ _ hb', if_neg (fun z => nomatch z), List.append_nil]
          exact sp _ _ a4
      · rintro H4 ⟨b4, f4, a4⟩
        refine ⟨f4, D, hereL (evs.take n), rfl, .inl (.inl ?_), hereL_nd _, Nat.le_trans (hereL_len _) (by rw [List.length_take]; omega), fun H5 p s5 hp => k H5 p (s3.trans ((unlock d1 b4).trans s5)) hp⟩
        rw [upd_ne hDd, a4, tk_len]
        have : l'.length = (thereB (evs.take n)).length := by
          have := congrArg List.length d2
          unfold thereD at this
          rwa [List.length_map, List.length_map, List.length_map] at this
        rw [this, List.take_length]
        rfl
end
end K19
end

section
set_option Elab.async false
set_option linter.all false
set_option maxRecDepth 100000
set_option maxHeartbeats 4000000
/-! W5: free places, the table of presences, what is owed, the stretches. -/
namespace K19
open PySem L2 K19M
section
variable {K : PySem.W.Frag} {H H' H2 : Hp} {Z : Za}
/-- what every def over a timetable is given -/
structure Giv (K : PySem.W.Frag) (Z : Za) (H : Hp) (y t : Addr) (h : List Nat) (evs : List (Bool × Str)) : Prop where
  yd : YardAt K Z H y h
  tm : TimAt K H t evs
  tt : TT h.sum [] [] evs
  nm : ∀ e ∈ evs, NameOk e.2
  len : evs.length ≤ 100
  hm : h ∈ menu
theorem Giv.same {y t : Addr} {h : List Nat} {evs : List (Bool × Str)} (g : Giv K Z H y t h evs) (s : Same H H') : Giv K Z H' y t h evs := ⟨g.yd.same s, g.tm.mono (tex s), g.tt, g.nm, g.len, g.hm⟩
theorem cr_maxT2 {X : Cx} (hc : X.calm = true) (hu : X.A.units + 64 < cLine) : CallR X (.builtin "max") (rMaxT X.K) := cr_maxT hc (by omega)
theorem menu_ok : ∀ h ∈ menu, HtOk h := by
  have key : ∀ h ∈ menu, 3 ≤ h.length ∧ h.length ≤ 12 ∧ ∀ n ∈ h, 1 ≤ n ∧ n ≤ 3 := by decide
  exact fun h q => ⟨(key h q).1, (key h q).2.1, (key h q).2.2⟩
theorem cnt_next {p i : Nat} {evs : List (Bool × Str)} {e : Bool × Str} (he : evs[i]? = some e) {C B : List Str} (tt : TT p C B (evs.drop i)) (hc : (cnts p (evs.take i))[i]? = some (p - B.length)) (hb : B.length ≤ p) :
    ∃ C' B', TT p C' B' (evs.drop (i + 1)) ∧ cnts p (evs.take (i + 1)) = cnts p (evs.take i) ++ [p - B'.length] ∧ B'.length ≤ p ∧ ((p - B'.length : Nat) : Int) = (if e.1 = true then ((p - B.length : Nat) : Int) - 1 else ((p - B.length : Nat) : Int) + 1) := by
  have hl := (List.getElem?_eq_some_iff.mp he).1
  have hdrop : evs.drop i = e :: evs.drop (i + 1) := by
    rw [List.drop_eq_getElem_cons hl, (List.getElem?_eq_some_iff.mp he).2]
  rw [hdrop] at tt
  obtain ⟨t1, t2⟩ := tt
  obtain ⟨l, c1, c2⟩ := cnts_app (evs.take i) e p
  have tl : (evs.take i).length = i := by
    rw [List.length_take]
    omega
  rw [tl, hc] at c1
  cases c1
  rw [← take_ev he] at c2
  obtain ⟨b, x⟩ := e
  cases b with
  | true =>
    obtain ⟨u1, u2⟩ := (show x ∉ C ∧ B.length < p from t1)
    refine ⟨_, _, t2, ?_, ?_, ?_⟩
    · rw [c2]
      congr 2
      show p - B.length - 1 = p - (B ++ [x]).length
      rw [List.length_append, List.length_singleton]
      omega
    · show (B ++ [x]).length ≤ p
      rw [List.length_append, List.length_singleton]
      omega
    · show ((p - (B ++ [x]).length : Nat) : Int) = ((p - B.length : Nat) : Int) - 1
      rw [List.length_append, List.length_singleton]
      omega
  | false =>
    have u1 : x ∈ B := t1
    have l1 := List.length_erase_of_mem u1
    have l2 : 0 < B.length := List.length_pos_of_mem u1
    refine ⟨_, _, t2, ?_, ?_, ?_⟩
    · rw [c2]
      congr 2
      show p - B.length + 1 = p - (B.erase x).length
      omega
    · show (B.erase x).length ≤ p
      omega
    · show ((p - (B.erase x).length : Nat) : Int) = ((p - B.length : Nat) : Int) + 1
      omega
theorem tab_next {i : Nat} {evs : List (Bool × Str)} {e : Bool × Str} (he : evs[i]? = some e) (T : Nat) : tabGo T 0 [] (evs.take (i + 1)) = tabStep T i (tabGo T 0 [] (evs.take i)) e := by
  have hl := (List.getElem?_eq_some_iff.mp he).1
  rw [take_ev he, tabGo_app, Nat.zero_add]
  congr 1
  rw [List.length_take]
  omega
theorem tabD_put (tab : List (Str × Nat × Nat)) (x : Str) (a b : Nat) : tabD (aput tab x (a, b)) = aput (tabD tab) x (.tuple [.int (a : Int), .int (b : Int)]) := (aput_map (fun p : Nat × Nat => PyData.tuple [.int (p.1 : Int), .int (p.2 : Int)]) tab x (a, b)).symm
theorem tabD_get (tab : List (Str × Nat × Nat)) (x : Str) : aget (tabD tab) x = (aget tab x).map fun p => .tuple [.int (p.1 : Int), .int (p.2 : Int)] := aget_map (fun p : Nat × Nat => PyData.tuple [.int (p.1 : Int), .int (p.2 : Int)]) tab x
theorem tabD_len (tab : List (Str × Nat × Nat)) : (tabD tab).length = tab.length := by
  unfold tabD
  rw [List.length_map]
theorem tabStep_len (T a : Nat) (tab : List (Str × Nat × Nat)) (e : Bool × Str) : (tabStep T a tab e).length ≤ tab.length + 1 := by
  unfold tabStep
  split <;> exact aput_len _ _ _
def rowD (r : Nat × Nat) : PyData := .tuple [.int (r.1 : Int), .int (r.2 : Int)]
def oV : Option Nat → V
  | none => .non
  | some a => .int (a : Int)
def stayL (tab : List (Str × Nat × Nat)) (a b : Nat) : List Str := (tab.filter fun e => decide (e.2.1 ≤ a) && decide (b ≤ e.2.2)).map (·.1)
end
section
variable {P : Program} {w : World} {K : PySem.W.Frag} {mg : Str → Option Value} {base : Heap} {Z : Za}
def sp_free_counts (K : PySem.W.Frag) (Z : Za) : Sp := fun vs H Q _ => ∃ (y t : Addr) (h : List Nat) (evs : List (Bool × Str)), vs = [.ref y, .ref t] ∧ Giv K Z H y t h evs ∧
  ∀ H' p, Same H H' → SqT K H' p (hV (cnts h.sum evs)) → Q (.ref p) H'
theorem c_free_counts {f : Addr} {fd : FuncData} (F : Fun K "free_counts" "free_counts" s_free_counts f fd) (g : mg "free_counts" = some (.ref f)) (T : Bl mg) (c_need_timetable : Cal P w K mg base 5 "need_timetable" ["yard", "value"] (sp_need_timetable K Z)) (c_places : Cal P w K mg base 1 "places" ["yard"] (sp_places K Z))  : Cal P w K mg base 6 "free_counts" ["yard", "timetable"] (sp_free_counts K Z) := by
  refine ⟨f, fd, g, F.kp, F.binds (ps := ["yard", "timetable"]) fun _ _ _ _ _ _ us hl => match us, hl with | [_, _], _ => rfl, F.ok sc_free_counts (fun vs H Q E h => ?_) (fun cdv A outer s H vs Q E hr h => ?_)⟩
  · obtain ⟨y, t, h, evs, rfl, _⟩ := h
    rfl
  · obtain ⟨y, t, h, evs, rfl, G, k⟩ := h
    refine ⟨_, (pss_cons (ps_expr (pe_cal c_need_timetable (hr.mono (by decide)) (by rfl) (pa_cons (pv 0) (pa_cons (pv 1) pa_nil))))
      (pss_cons (ps_set (i := 2) sc_free_counts.nd rfl (.inl rfl) (pe_lst (pa_cons (pe_cal c_places (hr.mono (by decide)) (by rfl) (pa_cons (pv 0) pa_nil)) pa_nil)))
      (pss_cons (ps_for PassesOwn.never rfl (pi_tup (pv 1)) (pg_tup rfl (pgs_cons (pg_name (i := 3) sc_free_counts.nd rfl (.inl rfl)) (pgs_cons (pg_name (i := 4) sc_free_counts.nd rfl (.inl rfl)) pgs_nil)))
        (pss_one (ps_expr (pe_bm PySem.F.plainAttrs_list PySem.F.slot_list_append PySem.F.type_list_append mt_append (pv 2) (pa_cons (pe_ifExp (pt_cmpR op_eq (pv 3) pe_str (nomark _)) (pe_op op_sub (pe_ix ix_list (pv 2) (pe_un un_neg pe_int) (fun _ _ => rfl)) pe_int) (pe_op op_add (pe_ix ix_list (pv 2) (pe_un un_neg pe_int) (fun _ _ => rfl)) pe_int)) pa_nil)))))
      (pss_one (ps_ret (pe_callTy call_tuple_of (by rfl) T.b_tuple (by decide +kernel) (pa_cons (pv 2) pa_nil))))))), ?_⟩
    refine ⟨_, rfl, _, rfl, y, t, h, evs, rfl, G.yd, G.tm, G.tt, G.nm, G.len, fun H1 s1 => ?_⟩
    refine ⟨_, rfl, y, h, rfl, G.yd.same s1, (by show 1 ≤ sizeLine; decide), fun c nc => ?_⟩
    have s2 := s1.trans (same_new (o := .lst [.int ((h.sum : Nat) : Int)]) nc)
    obtain ⟨xs, hx, hd⟩ := G.tm
    have hlen := DtAll.length hd
    rw [List.length_map] at hlen
    refine ⟨_, rfl, t, rfl, ⟨_, tex s2 _ _ hx⟩, for_it walk_tup (fun i σ H2 => ∃ v3 v4 C B, σ = [some (.ref y), some (.ref t), some (.ref c), v3, v4] ∧ Same H H2 ∧ H2 c = some (.lst (hV (cnts h.sum (evs.take i)))) ∧
      TT h.sum C B (evs.drop i) ∧ (cnts h.sum (evs.take i))[i]? = some (h.sum - B.length) ∧ B.length ≤ h.sum) ⟨_, _, [], [], rfl, s2, upd_same, G.tt, rfl, Nat.zero_le _⟩ (fun i σ H2 _ ⟨_, _, _, _, _, z, _⟩ => tex z _ _ hx) ?_ ?_⟩
    · rintro i x σ H2 H3 hi ⟨v3, v4, C, B, rfl, s3, hc, tt, cl, bl⟩ ⟨rfl, hxi⟩
      obtain ⟨b, hb, dt⟩ := DtAll.get hd hxi
      rw [List.getElem?_map] at hb
      obtain ⟨e, he, rfl⟩ := Option.map_eq_some_iff.mp hb
      obtain ⟨tt', rfl, sq⟩ := ev_inv dt
      obtain ⟨C', B', n1, n2, n3, n4⟩ := cnt_next he tt cl bl
      have hil := (List.getElem?_eq_some_iff.mp he).1
      have clen : (cnts h.sum (evs.take i)).length = i + 1 := by
        rw [cnts_len, List.length_take]
        omega
      have lastV : atI (hV (cnts h.sum (evs.take i))) (-1) = some (.int ((h.sum - B.length : Nat) : Int)) := at_neg1 (by rw [hV_len]; exact clen) (hV_at cl)
      have hc' : SqL K H3 c (hV (cnts h.sum (evs.take i))) := .inl (.inl hc)
      refine ⟨tt', _, rfl, tex s3 _ _ sq, rfl, _, _, rfl, _, _, rfl, rfl, ?_⟩
      refine ⟨_, rfl, .inl ⟨rfl, _, hc'⟩, _, rfl, rfl, _, rfl, ?_⟩
      have fin : ∀ z : Int, z = ((h.sum - B'.length : Nat) : Int) → ∃ l ys y', (V.ref c = V.ref l ∧ [V.int z] = [y'] ∧ H3 l = some (.lst ys) ∧ ys.length < sizeLine ∧
          (∃ v3 v4 C B, ([some (V.ref y), some (.ref t), some (.ref c), some (.str (wd e.1)), some (.str e.2)] : List (Option V)) = [some (.ref y), some (.ref t), some (.ref c), v3, v4] ∧ Same H (upd H3 l (.lst (ys ++ [y']))) ∧ (upd H3 l (.lst (ys ++ [y']))) c = some (.lst (hV (cnts h.sum (evs.take (i + 1))))) ∧
      TT h.sum C B (evs.drop (i + 1)) ∧ (cnts h.sum (evs.take (i + 1)))[i + 1]? = some (h.sum - B.length) ∧ B.length ≤ h.sum)) := by
        rintro z rfl
        refine ⟨c, _, _, rfl, rfl, hc, ?_, _, _, C', B', rfl, fun b o ob => ?_, ?_, n1, ?_, n3⟩
        · rw [hV_len, clen]
          have := G.len
          exact small1000 (by omega)
        · rw [upd_ne (ne_of_none (s1 _ _ ob) nc)]
          exact s3 _ _ ob
        · rw [upd_same, n2, hV_app]
          rfl
        · rw [n2, List.getElem?_append_right (by omega), clen, Nat.sub_self]
          rfl
      refine ite2 (fun q => ?_) fun q => ?_
      · have eb : e.1 = true := (wd_in _).1.mp (V.str.inj (of_decide_eq_true q))
        refine ⟨_, rfl, 1, rfl, c, _, -1, _, rfl, rfl, hc', lastV, _, _, rfl, rfl, ?_⟩
        exact fin _ (by rw [n4, if_pos eb])
      · have eb : ¬ e.1 = true := fun z => q (decide_eq_true (congrArg V.str ((wd_in _).1.mpr z)))
        refine ⟨_, rfl, 1, rfl, c, _, -1, _, rfl, rfl, hc', lastV, _, _, rfl, rfl, ?_⟩
        exact fin _ (by rw [n4, if_neg eb])
    · rintro σ H2 ⟨v3, v4, C, B, rfl, s3, hc, _⟩
      refine ⟨_, rfl, c, _, rfl, .inl ⟨.inl (.inl hc), fun p np => ?_⟩⟩
      rw [hlen, List.take_length]
      exact k _ p (s3.trans (same_new np)) (.inl (.inl upd_same))
def sp_presence_table (K : PySem.W.Frag) (Z : Za) : Sp := fun vs H Q _ => ∃ (t : Addr) (p : Nat) (evs : List (Bool × Str)), vs = [.ref t] ∧ TimAt K H t evs ∧ TT p [] [] evs ∧ evs.length ≤ 100 ∧
  ∀ H' d, Same H H' → H d = none → DK K H' d (tabD (tabOf evs)) → Q (.ref d) H'
theorem c_presence_table {f : Addr} {fd : FuncData} (F : Fun K "presence_table" "presence_table" s_presence_table f fd) (g : mg "presence_table" = some (.ref f)) (T : Bl mg)   : Cal P w K mg base 1 "presence_table" ["timetable"] (sp_presence_table K Z) := by
  refine ⟨f, fd, g, F.kp, F.binds (ps := ["timetable"]) fun _ _ _ _ _ _ us hl => match us, hl with | [_], _ => rfl, F.ok sc_presence_table (fun vs H Q E h => ?_) (fun cdv A outer s H vs Q E hr h => ?_)⟩
  · obtain ⟨t, p, evs, rfl, _⟩ := h
    rfl
  · obtain ⟨t, p, evs, rfl, ⟨xs, hx, hd⟩, tt, hl, k⟩ := h
    have hu := hu_of hr
    have hlen := DtAll.length hd
    rw [List.length_map] at hlen
    refine ⟨_, (pss_cons (ps_set (i := 1) sc_presence_table.nd rfl (.inl rfl) pe_dnewK)
      (pss_cons (ps_for PassesOwn.never rfl (pi_enumT (by rfl) T.b_enumerate (pa_cons (pv 0) pa_nil)) (pg_tup rfl (pgs_cons (pg_name (i := 2) sc_presence_table.nd rfl (.inl rfl)) (pgs_cons (pg_tup rfl (pgs_cons (pg_name (i := 3) sc_presence_table.nd rfl (.inl rfl)) (pgs_cons (pg_name (i := 4) sc_presence_table.nd rfl (.inl rfl)) pgs_nil))) pgs_nil)))
        (pss_one (ps_if (pt_cmpR op_eq (pv 3) pe_str (nomark _))
          (pss_one (ps_dput hu (pv 1) (pv 4) (pe_tup (pa_cons (pe_op op_add (pv 2) pe_int) (pa_cons (pe_callB call_len_seq (by rfl) T.b_len PySem.boot_len (pa_cons (pv 0) pa_nil)) pa_nil))) rfl))
          (pss_one (ps_dput hu (pv 1) (pv 4) (pe_tup (pa_cons (pe_ix ix_tup (pe_dget hu (pv 1) (pv 4) (fun _ _ => rfl)) pe_int (fun _ _ => rfl)) (pa_cons (pv 2) pa_nil))) rfl)))))
      (pss_one (ps_ret (pv 1))))), ?_⟩
    refine fun d nd => ?_
    have s1 := same_new (o := .dK []) nd
    refine ⟨_, rfl, t, _, rfl, tex s1 _ _ hx, for_it walk_enumT (fun i σ H2 => ∃ v2 v3 v4 B, σ = [some (.ref t), some (.ref d), v2, v3, v4] ∧ Same H H2 ∧ DK K H2 d (tabD (tabGo evs.length 0 [] (evs.take i))) ∧ (tabGo evs.length 0 [] (evs.take i)).length ≤ i ∧
      TT p ((tabGo evs.length 0 [] (evs.take i)).map (·.1)) B (evs.drop i) ∧ ∀ x ∈ B, x ∈ (tabGo evs.length 0 [] (evs.take i)).map (·.1)) ⟨_, _, _, [], rfl, s1, .nil upd_same, Nat.le_refl _, tt, fun x hx => nomatch hx⟩ (fun i σ H2 _ ⟨_, _, _, _, _, z, _⟩ => tex z _ _ hx) ?_ ?_⟩
    · rintro i x σ H2 H3 hi ⟨v2, v3, v4, B, rfl, s2, D, dl, tt, bc⟩ ⟨q, x1, x2, rfl, nq, rfl, e1, e2⟩
      obtain rfl : V.int (i : Int) = x1 := Option.some.inj e1
      have s3 := same_new (o := .tup [.int (i : Int), x2]) nq
      obtain ⟨b, hb, dt⟩ := DtAll.get hd e2
      rw [List.getElem?_map] at hb
      obtain ⟨e, he, rfl⟩ := Option.map_eq_some_iff.mp hb
      obtain ⟨tt', rfl, sq⟩ := ev_inv dt
      have hil := (List.getElem?_eq_some_iff.mp he).1
      have hdrop : evs.drop i = e :: evs.drop (i + 1) := by
        rw [List.drop_eq_getElem_cons hil, (List.getElem?_eq_some_iff.mp he).2]
      rw [hdrop] at tt
      have en := tab_next he evs.length
      generalize tabGo evs.length 0 [] (evs.take i) = tab at D dl tt bc en
      have D3 := D.same s3
      refine ⟨q, _, rfl, .inl (.inl upd_same), rfl, _, _, rfl, _, _, rfl, ⟨tt', _, rfl, tex (s2.trans s3) _ _ sq, rfl, _, _, rfl, _, _, rfl, rfl, rfl, ?_⟩⟩
      refine ⟨_, rfl, rfl, _, rfl, ?_⟩
      obtain ⟨eb, ex⟩ := e
      cases eb with
      | true =>
        obtain ⟨⟨u1, u2⟩, u3⟩ := tt
        rw [show tabStep evs.length i tab (true, ex) = aput tab ex (i + 1, evs.length) from rfl] at en
        refine ite2 (fun _ => ?_) fun z => (z (decide_eq_true rfl)).elim
        refine ⟨_, rfl, _, _, rfl, rfl, _, rfl, t, _, rfl, .inr (tex (s2.trans s3) _ _ hx), two, fun r nr => ?_⟩
        have s4 := same_new (o := .tup [.int ((i : Int) + 1), .int (xs.length : Int)]) nr
        obtain ⟨o, p1, p2, p3⟩ := (D3.same s4).dput ex (v := .ref r) (b := .tuple [.int ((i + 1 : Nat) : Int), .int (evs.length : Int)]) (by rw [← hlen]; exact pair_new) (by rw [tabD_len]; omega)
        refine ⟨_, rfl, _, rfl, d, _, rfl, p1, ?_⟩
        rw [en]
        refine ⟨_, _, _, B ++ [ex], rfl, fun b o' ob => ?_, ?_, Nat.le_trans (aput_len _ _ _) (by omega), ?_, fun y hy => ?_⟩
        · rw [upd_ne (ne_of_none ob nd)]
          exact s4 _ _ (s3 _ _ (s2 _ _ ob))
        · rw [tabD_put]
          exact p2
        · rw [aput_keys, if_neg u1]
          exact u3
        · rw [aput_keys, if_neg u1]
          rcases List.mem_append.mp hy with z | z
          · exact List.mem_append_left _ (bc y z)
          · exact List.mem_append_right _ z
      | false =>
        obtain ⟨u1, u3⟩ := tt
        have u1 : ex ∈ B := u1
        have hk := bc ex u1
        obtain ⟨⟨c, l⟩, hcl⟩ := Option.isSome_iff_exists.mp (aget_isSome.mpr hk)
        rw [show tabStep evs.length i tab (false, ex) = aput tab ex (c, i) by
          show aput tab ex (((aget tab ex).getD (0, 0)).1, i) = _
          rw [hcl]
          rfl] at en
        refine ite2 (fun z => absurd (of_decide_eq_true z) wd_2) fun _ => ?_
        obtain ⟨r1, g1, _, g2⟩ := D3.dget ex
        obtain ⟨v, rfl, dv⟩ := g2 (.tuple [.int (c : Int), .int (l : Int)]) (by rw [tabD_get, hcl]; rfl)
        obtain ⟨ta, rfl, sa⟩ := pair_inv dv
        refine ⟨_, rfl, _, rfl, d, _, rfl, g1, ta, _, 0, _, rfl, rfl, sa, atI_nat (j := 0) rfl, _, rfl, two, fun r nr => ?_⟩
        have s4 := same_new (o := .tup [.int (c : Int), .int (i : Int)]) nr
        obtain ⟨o, p1, p2, p3⟩ := (D3.same s4).dput ex (v := .ref r) (b := .tuple [.int (c : Int), .int (i : Int)]) pair_new (by rw [tabD_len]; omega)
        refine ⟨_, rfl, _, rfl, d, _, rfl, p1, ?_⟩
        rw [en]
        refine ⟨_, _, _, B.erase ex, rfl, fun b o' ob => ?_, ?_, Nat.le_trans (aput_len _ _ _) (by omega), ?_, fun y hy => ?_⟩
        · rw [upd_ne (ne_of_none ob nd)]
          exact s4 _ _ (s3 _ _ (s2 _ _ ob))
        · rw [tabD_put]
          exact p2
        · rw [aput_keys, if_pos hk]
          exact u3
        · rw [aput_keys, if_pos hk]
          exact bc y (List.mem_of_mem_erase hy)
    · rintro σ H2 ⟨v2, v3, v4, B, rfl, s2, D, _⟩
      rw [hlen, List.take_length] at D
      exact ⟨_, rfl, k H2 d s2 nd D⟩
def sp_owed (K : PySem.W.Frag) (Z : Za) : Sp := fun vs H Q _ => ∃ (y : Addr) (h : List Nat) (u : Nat), vs = [.ref y, .int (u : Int)] ∧ YardAt K Z H y h ∧ h.length ≤ 12 ∧ ∀ H', Same H H' → Q (.int ((owed h u : Nat) : Int)) H'
theorem c_owed {f : Addr} {fd : FuncData} (F : Fun K "owed" "owed" s_owed f fd) (g : mg "owed" = some (.ref f)) (T : Bl mg)   (C : Cf K Z) : Cal P w K mg base 1 "owed" ["yard", "cover"] (sp_owed K Z) := by
  refine ⟨f, fd, g, F.kp, F.binds (ps := ["yard", "cover"]) fun _ _ _ _ _ _ us hl => match us, hl with | [_, _], _ => rfl, F.ok sc_owed (fun vs H Q E h => ?_) (fun cdv A outer s H vs Q E hr h => ?_)⟩
  · obtain ⟨y, h, u, rfl, _⟩ := h
    rfl
  · obtain ⟨y, h, u, rfl, ⟨dx, a, hy, ha⟩, hl, k⟩ := h
    refine ⟨_, (pss_one (ps_ret (pe_callB (cr_sum rfl) (by rfl) T.b_sum (by decide +kernel) (pa_cons (pe_lc (g := (gName 2)) (own := [("height", 2)]) rfl sc_owed.nd (pi_tup (pe_fld (pv 0) rfl)) (blkOk_by (own := [("height", 2)]) (N := n_owed) (sc := defScope s_owed) (by decide +kernel)) (fun _ _ _ _ _ => (pg_name (i := 2) sc_owed.nd rfl (.inl rfl) (.inr rfl))) (fun _ _ _ _ _ => pts_nil) (fun _ _ _ _ _ => (pe_callB (call_max2 rfl) (by rfl) T.b_max (by decide +kernel) (pa_cons pe_int (pa_cons (pe_op op_sub (pv 2) (pv 1)) pa_nil))))) pa_nil)))), ?_⟩
    refine ⟨_, rfl, y, Z.Y, dx, _, _, rfl, hy, C.yc, C.yh, lookH, a, rfl, ⟨_, ha⟩, fun D nD => ?_⟩
    refine lc_it walk_tup (fun i H2 => Same H H2 ∧ H2 D = some (.lst ((zs ((h.take i).map fun n => n - u)).map V.int))) ⟨same_new nD, upd_same⟩ (fun i H2 _ s2 => tex s2.1 _ _ ha) ?_ ?_
    · rintro i x H2 H3 hi ⟨s2, d2⟩ ⟨rfl, e2⟩
      obtain ⟨n, hn, rfl⟩ := hV_get e2
      have hil : i < h.length := (List.getElem?_eq_some_iff.mp hn).1
      refine ⟨rfl, _, rfl, _, rfl, _, _, rfl, rfl, _, _, rfl, _, d2, ?_, fun b o ob => ?_, ?_⟩
      · unfold zs
        rw [List.length_map, List.length_map, List.length_map, List.length_take]
        exact small1000 (by omega)
      · rw [upd_ne (ne_of_none ob nD)]
        exact s2 _ _ ob
      · rw [upd_same, owed_take u hn, List.map_append]
        congr 3
        show [V.int (if (n : Int) - (u : Int) > 0 then (n : Int) - (u : Int) else 0)] = [V.int ((n - u : Nat) : Int)]
        congr 2
        split <;> omega
    · rintro H2 ⟨s2, d2⟩
      refine ⟨D, _, rfl, .inl (.inl d2), ?_⟩
      rw [hV_len, List.take_length, zs_sum]
      exact k H2 s2
def sp_yard_covers (K : PySem.W.Frag) (Z : Za) : Sp := fun vs H Q _ => ∃ (y : Addr) (h : List Nat), vs = [.ref y] ∧ YardAt K Z H y h ∧ h ∈ menu ∧ ∀ H' p, Same H H' → H p = none → H' p = some (.lst (hV (List.range (maxH h)))) → Q (.ref p) H'
theorem c_yard_covers {f : Addr} {fd : FuncData} (F : Fun K "yard_covers" "yard_covers" s_yard_covers f fd) (g : mg "yard_covers" = some (.ref f)) (T : Bl mg)   (C : Cf K Z) : Cal P w K mg base 1 "yard_covers" ["yard"] (sp_yard_covers K Z) := by
  refine ⟨f, fd, g, F.kp, F.binds (ps := ["yard"]) fun _ _ _ _ _ _ us hl => match us, hl with | [_], _ => rfl, F.ok sc_yard_covers (fun vs H Q E h => ?_) (fun cdv A outer s H vs Q E hr h => ?_)⟩
  · obtain ⟨y, h, rfl, _⟩ := h
    rfl
  · obtain ⟨y, h, rfl, ⟨dx, a, hy, ha⟩, hm, k⟩ := h
    have h3 := (menu_ok h hm).l3
    have hx := (menu_max h hm).1
    cases h with
    | nil => exact absurd h3 (by decide)
    | cons n h =>
    refine ⟨_, (pss_one (ps_ret (pe_listRg rfl (by rfl) T.b_list (prg_1 (by rfl) T.b_range (pe_callB (cr_maxT2 rfl hr.units) (by rfl) T.b_max (by decide +kernel) (pa_cons (pe_fld (pv 0) rfl) pa_nil)))))), ?_⟩
    refine ⟨_, rfl, y, Z.Y, dx, _, _, rfl, hy, C.yc, C.yh, lookH, a, (n : Int), zs h, rfl, ha, ?_⟩
    rw [foldl_zs, ← maxH_cons]
    refine ⟨_, rfl, RgOk.of_le (by omega) (by omega) (by omega) (by omega), fun q nq => k _ q (same_new nq) nq ?_⟩
    rw [upd_same]
    congr 2
    unfold rgV hV zs
    rw [List.map_map]
    have : ((maxH (n :: h) : Int) - 0).toNat = maxH (n :: h) := by omega
    rw [this]
    refine List.map_congr_left fun j _ => ?_
    show V.int (0 + (j : Int)) = V.int (j : Int)
    rw [Int.zero_add]
def sp_rows_below (K : PySem.W.Frag) (Z : Za) : Sp := fun vs H Q _ => ∃ (c : Addr) (cs : List Nat) (u : Nat), vs = [.ref c, .int (u : Int)] ∧ SqT K H c (hV cs) ∧ cs.length ≤ 101 ∧
  ∀ H' p xs, Same H H' → H p = none → H' p = some (.lst xs) → DtAll K H' xs ((rows u cs).map rowD) → Q (.ref p) H'
theorem rowsGo_len (u : Nat) : ∀ (cs : List Nat) (s : Nat) (o : Option Nat), (rowsGo u cs s o).length ≤ cs.length + 1
  | [], _, none => Nat.zero_le _
  | [], _, some _ => Nat.le_refl _
  | c :: cs, s, none => by
    unfold rowsGo
    split
    · exact Nat.le_trans (rowsGo_len u cs _ _) (Nat.le_succ _)
    · exact Nat.le_trans (rowsGo_len u cs _ _) (Nat.le_succ _)
  | c :: cs, s, some a => by
    unfold rowsGo
    split
    · exact Nat.le_trans (rowsGo_len u cs _ _) (Nat.le_succ _)
    · exact Nat.succ_le_succ (rowsGo_len u cs _ _)
theorem c_rows_below {f : Addr} {fd : FuncData} (F : Fun K "rows_below" "rows_below" s_rows_below f fd) (g : mg "rows_below" = some (.ref f)) (T : Bl mg)   : Cal P w K mg base 1 "rows_below" ["counts", "cover"] (sp_rows_below K Z) := by
  refine ⟨f, fd, g, F.kp, F.binds (ps := ["counts", "cover"]) fun _ _ _ _ _ _ us hl => match us, hl with | [_, _], _ => rfl, F.ok sc_rows_below (fun vs H Q E h => ?_) (fun cdv A outer s H vs Q E hr h => ?_)⟩
  · obtain ⟨c, cs, u, rfl, _⟩ := h
    rfl
  · obtain ⟨c, cs, u, rfl, hc, hl, k⟩ := h
    refine ⟨_, (pss_cons (ps_par (i := 2) (j := 3) (by rfl) sc_rows_below.nd rfl rfl (by decide) rfl rfl (pa_cons (pe_lst pa_nil) (pa_cons pe_non pa_nil)) (by rfl))
      (pss_cons (ps_for PassesOwn.never rfl (pi_enumT (by rfl) T.b_enumerate (pa_cons (pv 0) pa_nil)) (pg_tup rfl (pgs_cons (pg_name (i := 4) sc_rows_below.nd rfl (.inl rfl)) (pgs_cons (pg_name (i := 5) sc_rows_below.nd rfl (.inl rfl)) pgs_nil)))
        (pss_cons (ps_if (PW.pt (pw_and (pt_cmpR op_le (pv 5) (pv 1) (nomark _)) (pw_and1 (pt_cmpR op_isN (pv 3) pe_non (nomark _)))))
          (pss_one (ps_set (i := 3) sc_rows_below.nd rfl (.inl rfl) (pv 4)))
          pss_nil)
        (pss_one (ps_if (PW.pt (pw_and (pt_cmpR op_gt (pv 5) (pv 1) (nomark _)) (pw_and1 (pt_cmpR op_notN (pv 3) pe_non (nomark _)))))
          (pss_cons (ps_expr (pe_bm PySem.F.plainAttrs_list PySem.F.slot_list_append PySem.F.type_list_append mt_append (pv 2) (pa_cons (pe_tup (pa_cons (pv 3) (pa_cons (pe_op op_sub (pv 4) pe_int) pa_nil))) pa_nil)))
          (pss_one (ps_set (i := 3) sc_rows_below.nd rfl (.inl rfl) pe_non)))
          pss_nil))))
      (pss_cons (ps_if (pt_cmpR op_notN (pv 3) pe_non (nomark _))
        (pss_one (ps_expr (pe_bm PySem.F.plainAttrs_list PySem.F.slot_list_append PySem.F.type_list_append mt_append (pv 2) (pa_cons (pe_tup (pa_cons (pv 3) (pa_cons (pe_op op_sub (pe_callB call_len_seq (by rfl) T.b_len PySem.boot_len (pa_cons (pv 0) pa_nil)) pe_int) pa_nil))) pa_nil))))
        pss_nil)
      (pss_one (ps_ret (pv 2)))))), ?_⟩
    refine ⟨Nat.zero_le _, fun f nf => ⟨_, _, rfl, ?_⟩⟩
    have s1 := same_new (o := .lst []) nf
    have hrl := rowsGo_len u cs 0 none
    refine ⟨_, rfl, c, _, rfl, tex s1 _ _ hc, for_it walk_enumT (fun i σ H2 => ∃ v4 v5 acc F o, σ = [some (.ref c), some (.int (u : Int)), some (.ref f), some (oV o), v4, v5] ∧ Same H H2 ∧ H2 f = some (.lst acc) ∧ DtAll K H2 acc (F.map rowD) ∧
      rows u cs = F ++ rowsGo u (cs.drop i) i o ∧ ∀ a, o = some a → a < i) ⟨_, _, [], [], none, rfl, s1, upd_same, .nil, rfl, fun a z => nomatch z⟩ (fun i σ H2 _ ⟨_, _, _, _, _, _, z, _⟩ => tex z _ _ hc) ?_ ?_⟩
    · rintro i x σ H2 H3 hi ⟨v4, v5, acc, F, o, rfl, s2, hf, hF, er, ho⟩ ⟨q, x1, x2, rfl, nq, rfl, e1, e2⟩
      obtain rfl : V.int (i : Int) = x1 := Option.some.inj e1
      obtain ⟨n, hn, rfl⟩ := hV_get e2
      have s3 := same_new (o := .tup [.int (i : Int), .int (n : Int)]) nq
      have hil := (List.getElem?_eq_some_iff.mp hn).1
      have hdrop : cs.drop i = n :: cs.drop (i + 1) := by
        rw [List.drop_eq_getElem_cons hil, (List.getElem?_eq_some_iff.mp hn).2]
      rw [hdrop] at er
      have sA := s2.trans s3
      refine ⟨q, _, rfl, .inl (.inl upd_same), rfl, _, _, rfl, _, _, rfl, rfl, ?_⟩
      by_cases hle : n ≤ u
      · refine ⟨_, rfl, _, rfl, _, _, rfl, rfl, true, blT (by omega), iteT ⟨_, rfl, rfl, _, rfl, ?_⟩⟩
        cases o with
        | none =>
          refine ite2 (fun _ => ?_) fun z => (z (decide_eq_true rfl)).elim
          refine ⟨_, rfl, _, rfl, _, rfl, _, _, rfl, rfl, false, blF (by omega), iteF (iteF ?_)⟩
          refine ⟨_, _, acc, F, some i, rfl, sA, s3 _ _ hf, DtAll.mono (tex s3) _ _ hF, ?_, fun a z => by cases z; exact Nat.lt_succ_self _⟩
          rw [er]
          show F ++ (if n ≤ u then _ else _) = _
          rw [if_pos hle]
        | some a =>
          refine ite2 (fun z => nomatch (of_decide_eq_true z)) fun _ => ?_
          refine ⟨_, rfl, _, rfl, _, _, rfl, rfl, false, blF (by omega), iteF (iteF ?_)⟩
          refine ⟨_, _, acc, F, some a, rfl, sA, s3 _ _ hf, DtAll.mono (tex s3) _ _ hF, ?_, fun b z => by cases z; exact Nat.lt_succ_of_lt (ho a rfl)⟩
          rw [er]
          show F ++ (if n ≤ u then _ else _) = _
          rw [if_pos hle]
      · refine ⟨_, rfl, _, rfl, _, _, rfl, rfl, false, blF (by omega), iteF (iteF ?_)⟩
        refine ⟨_, rfl, _, rfl, _, _, rfl, rfl, true, blT (by omega), iteT ⟨_, rfl, rfl, _, rfl, ?_⟩⟩
        cases o with
        | none =>
          refine ite2 (fun z => nomatch z) fun _ => ?_
          refine ⟨_, _, acc, F, none, rfl, sA, s3 _ _ hf, DtAll.mono (tex s3) _ _ hF, ?_, fun a z => nomatch z⟩
          rw [er]
          show F ++ (if n ≤ u then _ else _) = _
          rw [if_neg hle]
        | some a =>
          have hai := ho a rfl
          refine ite2 (fun _ => ?_) fun z => (z rfl).elim
          refine ⟨_, rfl, .inl ⟨rfl, _, .inl (.inl (s3 _ _ hf))⟩, _, rfl, _, rfl, _, _, rfl, rfl, two, fun r nr => ?_⟩
          have s4 := same_new (o := .tup [.int (a : Int), .int ((i : Int) - 1)]) nr
          have hf4 := s4 _ _ (s3 _ _ hf)
          have flen : acc.length ≤ 200 := by
            have z1 := DtAll.length hF
            have z2 := congrArg List.length er
            rw [List.length_map] at z1
            rw [List.length_append] at z2
            have z3 : (rows u cs).length ≤ cs.length + 1 := hrl
            omega
          refine ⟨f, acc, _, rfl, rfl, hf4, small1000 (by omega), ?_⟩
          have m2 := tupEx_lst (K := K) (o := .lst (acc ++ [.ref r])) hf4
          refine ⟨_, _, acc ++ [.ref r], F ++ [(a, i - 1)], none, rfl, fun b o' ob => ?_, upd_same, ?_, ?_, fun a z => nomatch z⟩
          · rw [upd_ne (ne_of_none ob nf)]
            exact s4 _ _ (sA _ _ ob)
          · rw [List.map_append]
            refine DtAll.app (DtAll.mono ((tex s3).trans ((tex s4).trans m2)) _ _ hF) (.cons (Dt.mono m2 _ _ ?_) .nil)
            unfold rowD
            rw [show (((a, i - 1) : Nat × Nat).2 : Int) = (i : Int) - 1 by show ((i - 1 : Nat) : Int) = _; omega]
            exact pair_new
          · rw [er, List.append_assoc]
            show F ++ (if n ≤ u then _ else _) = F ++ ([(a, i - 1)] ++ _)
            rw [if_neg hle]
            rfl
    · rintro σ H2 ⟨v4, v5, acc, F, o, rfl, s2, hf, hF, er, ho⟩
      rw [hV_len, List.drop_length] at er
      cases o with
      | none =>
        refine ⟨_, rfl, rfl, _, rfl, ite2 (fun z => nomatch z) fun _ => ?_⟩
        refine ⟨_, rfl, k H2 f acc s2 nf hf ?_⟩
        rw [er]
        show DtAll K H2 acc ((F ++ []).map rowD)
        rw [List.append_nil]
        exact hF
      | some a =>
        refine ⟨_, rfl, rfl, _, rfl, ite2 (fun _ => ?_) fun z => (z rfl).elim⟩
        refine ⟨_, rfl, .inl ⟨rfl, _, .inl (.inl hf)⟩, _, rfl, _, rfl, c, _, rfl, .inr (tex s2 _ _ hc), _, _, rfl, rfl, two, fun r nr => ?_⟩
        have s4 := same_new (o := .tup [.int (a : Int), .int (((hV cs).length : Int) - 1)]) nr
        have hf4 := s4 _ _ hf
        have flen : acc.length ≤ 200 := by
          have z1 := DtAll.length hF
          have z2 := congrArg List.length er
          rw [List.length_map] at z1
          rw [List.length_append] at z2
          have z3 : (rows u cs).length ≤ cs.length + 1 := hrl
          omega
        have hpos := ho a rfl
        rw [hV_len] at hpos
        refine ⟨f, acc, _, rfl, rfl, hf4, small1000 (by omega), ?_⟩
        have m2 := tupEx_lst (K := K) (o := .lst (acc ++ [.ref r])) hf4
        refine ⟨_, rfl, k _ f _ (fun b o' ob => ?_) nf upd_same ?_⟩
        · rw [upd_ne (ne_of_none ob nf)]
          exact s4 _ _ (s2 _ _ ob)
        · rw [er]
          show DtAll K _ _ ((F ++ [(a, cs.length - 1)]).map rowD)
          rw [List.map_append]
          refine DtAll.app (DtAll.mono ((tex s4).trans m2) _ _ hF) (.cons (Dt.mono m2 _ _ ?_) .nil)
          unfold rowD
          rw [show (((a, cs.length - 1) : Nat × Nat).2 : Int) = ((hV cs).length : Int) - 1 by rw [hV_len]; show ((cs.length - 1 : Nat) : Int) = _; omega]
          exact pair_new
def sp_staying (K : PySem.W.Frag) (Z : Za) : Sp := fun vs H Q _ => ∃ (d r : Addr) (tab : List (Str × Nat × Nat)) (a b : Nat), vs = [.ref d, .ref r] ∧ DK K H d (tabD tab) ∧ SqT K H r [.int (a : Int), .int (b : Int)] ∧ (tab.map (·.1)).Nodup ∧ tab.length ≤ 100 ∧
  ∀ H' p, Same H H' → SqT K H' p ((sortT (stayL tab a b)).map V.str) → Q (.ref p) H'
theorem c_staying {f : Addr} {fd : FuncData} (F : Fun K "staying" "staying" s_staying f fd) (g : mg "staying" = some (.ref f)) (T : Bl mg) (c_lot_of : Cal P w K mg base 1 "lot_of" ["things"] (sp_lot_of K Z))  : Cal P w K mg base 2 "staying" ["table", "stretch"] (sp_staying K Z) := by
  refine ⟨f, fd, g, F.kp, F.binds (ps := ["table", "stretch"]) fun _ _ _ _ _ _ us hl => match us, hl with | [_, _], _ => rfl, F.ok sc_staying (fun vs H Q E h => ?_) (fun cdv A outer s H vs Q E hr h => ?_)⟩
  · obtain ⟨d, r, tab, a, b, rfl, _⟩ := h
    rfl
  · obtain ⟨d, r, tab, a, b, rfl, ⟨l', d1, d2, d3⟩, hr', nd, hl, k⟩ := h
    refine ⟨_, (pss_cons (ps_asg (pv 1) (pg_tup rfl (pgs_cons (pg_name (i := 2) sc_staying.nd rfl (.inr rfl)) (pgs_cons (pg_name (i := 3) sc_staying.nd rfl (.inr rfl)) pgs_nil))))
      (pss_one (ps_ret (pe_cal c_lot_of (hr.mono (by decide)) (by rfl) (pa_cons (pe_lock (pe_lc (g := (gTup K 2 (gCons (gName 4) (gCons (gTup K 2 (gCons (gName 5) (gCons (gName 6) gNil))) gNil)))) (own := [("box", 4), ("come", 5), ("leave", 6)]) rfl sc_staying.nd (pi_items (pv 0)) (blkOk_by (own := [("box", 4), ("come", 5), ("leave", 6)]) (N := n_staying) (sc := defScope s_staying) (by decide +kernel)) (fun _ _ _ _ _ => (pg_tup rfl (pgs_cons (pg_name (i := 4) sc_staying.nd rfl (.inl rfl) (.inr rfl)) (pgs_cons (pg_tup rfl (pgs_cons (pg_name (i := 5) sc_staying.nd rfl (.inl rfl) (.inr rfl)) (pgs_cons (pg_name (i := 6) sc_staying.nd rfl (.inl rfl) (.inr rfl)) pgs_nil))) pgs_nil)))) (fun _ _ _ _ _ => (pts_one (PW.pt (pw_and (pt_cmpR op_le (pv 5) (pv 2) (nomark _)) (pw_and1 (pt_cmpR op_le (pv 3) (pv 6) (nomark _))))))) (fun _ _ _ _ _ => (pv 4)))) pa_nil))))), ?_⟩
    refine ⟨_, rfl, r, _, rfl, hr', rfl, _, _, rfl, _, _, rfl, rfl, ?_⟩
    refine ⟨d, _, d1, trivial, fun od => ?_⟩
    have b0 : But d H (upd H d (.frz od (.dK (tk l')))) := lock_but
    refine ⟨_, rfl, d, od, _, rfl, upd_same, fun D nD => ?_⟩
    have hDd : D ≠ d := fun z => by
      rw [z, upd_same] at nD
      cases nD
    have llen : l'.length = tab.length := by
      have := congrArg List.length d2
      rwa [List.length_map, List.length_map, tabD_len] at this
    refine lc_it walk_items (fun i H4 => But d H H4 ∧ H4 d = some (.frz od (.dK (tk l'))) ∧ H4 D = some (.lst ((((tab.take i).filter fun e => decide (e.2.1 ≤ a) && decide (b ≤ e.2.2)).map (·.1)).map V.str))) ⟨b0.same (same_new nD), by rw [upd_ne hDd.symm]; exact upd_same, upd_same⟩ (fun i H4 _ z => z.2.1) ?_ ?_
    · rintro i x H4 H5 hi ⟨b4, f4, a4⟩ ⟨p, x1, x2, rfl, np, rfl, e1, e2⟩
      obtain ⟨y, hy, rfl⟩ := tk_get e1 e2
      obtain ⟨bb, hb, dt⟩ := dk_at d2 d3 hy
      unfold tabD at hb
      rw [List.getElem?_map] at hb
      obtain ⟨⟨y', c, l⟩, hb', eb⟩ := Option.map_eq_some_iff.mp hb
      obtain ⟨rfl, rfl⟩ := Prod.mk.inj eb
      obtain ⟨ta, rfl, sa⟩ := pair_inv dt
      have sp := same_new (o := .tup [.str y', .ref ta]) np
      have tA : TupEx K H H4 := fun q xs sq => by
        rcases sq with (sq | ⟨o', sq⟩) | sq
        · exact .inl (.inl (b4 _ _ sq (fun z => by rw [z, d1] at sq; cases sq)))
        · exact .inl (.inr ⟨o', b4 _ _ sq (fun z => by rw [z, d1] at sq; cases sq)⟩)
        · exact .inr sq
      have sa' := tex sp _ _ (tA _ _ sa)
      have lenb : (((tab.take i).filter fun e => decide (e.2.1 ≤ a) && decide (b ≤ e.2.2)).map (·.1)).length ≤ 100 := by
        rw [List.length_map]
        refine Nat.le_trans (List.length_filter_le _ _) ?_
        rw [List.length_take]
        omega
      have no : ∀ hyes : ¬ (c ≤ a ∧ b ≤ l), But d H (upd H4 p (.tup [.str y', .ref ta])) ∧ (upd H4 p (.tup [.str y', .ref ta])) d = some (.frz od (.dK (tk l'))) ∧ (upd H4 p (.tup [.str y', .ref ta])) D = some (.lst ((((tab.take (i + 1)).filter fun e => decide (e.2.1 ≤ a) && decide (b ≤ e.2.2)).map (·.1)).map V.str)) := fun hyes => by
        refine ⟨fun b' o hb hn => sp _ _ (b4 b' o hb hn), sp _ _ f4, ?_⟩
        rw [fm_take _ _ hb', if_neg (fun z => hyes (by
          obtain ⟨z1, z2⟩ := Bool.and_eq_true_iff.mp z
          exact ⟨of_decide_eq_true z1, of_decide_eq_true z2⟩)), List.append_nil]
        exact sp _ _ a4
      refine ⟨p, [.str y', .ref ta], rfl, .inl (.inl upd_same), rfl, _, _, rfl, _, _, rfl, ⟨ta, _, rfl, sa', rfl, _, _, rfl, _, _, rfl, rfl, rfl, rfl, ?_⟩⟩
      refine ⟨_, rfl, _, rfl, _, _, rfl, rfl, _, rfl, ite2 (fun q1 => ?_) fun q1 => ?_⟩
      · refine ⟨_, rfl, _, rfl, _, _, rfl, rfl, _, rfl, ite2 (fun q2 => ?_) fun q2 => ?_⟩
        · refine ⟨_, rfl, _, sp _ _ a4, by rw [List.length_map]; exact small1000 (by omega), fun b' o hb hn => ?_, ?_, ?_⟩
          · rw [upd_ne (fun z => by rw [z] at hb; rw [upd_ne hDd] at nD; rw [nD] at hb; cases hb)]
            exact sp _ _ (b4 b' o hb hn)
          · rw [upd_ne hDd.symm]
            exact sp _ _ f4
          · have z1 : (c : Int) ≤ (a : Int) := of_decide_eq_true q1
            have z2 : (b : Int) ≤ (l : Int) := of_decide_eq_true q2
            rw [upd_same, fm_take _ _ hb', if_pos (Bool.and_eq_true_iff.mpr ⟨decide_eq_true (by show c ≤ a; omega), decide_eq_true (by show b ≤ l; omega)⟩), List.map_append]
            rfl
        · exact no fun z => q2 (decide_eq_true (show (b : Int) ≤ (l : Int) by omega))
      · exact iteF (no fun z => q1 (decide_eq_true (show (c : Int) ≤ (a : Int) by omega)))
    · rintro H4 ⟨b4, f4, a4⟩
      have nds : (stayL tab a b).Nodup := List.Nodup.sublist (List.Sublist.map _ List.filter_sublist) nd
      have lens : (stayL tab a b).length ≤ 100 := by
        unfold stayL
        rw [List.length_map]
        exact Nat.le_trans (List.length_filter_le _ _) hl
      refine ⟨f4, D, stayL tab a b, rfl, .inl (.inl ?_), nds, lens, fun H5 p s5 hp => k H5 p ((unlock d1 b4).trans s5) hp⟩
      rw [upd_ne hDd, a4, tk_len, llen, List.take_length]
      rfl
end
end K19
end

section
set_option Elab.async false
set_option linter.all false
set_option maxRecDepth 100000
set_option maxHeartbeats 8000000
/-! W6: what is told: Dealt, Short; shorts; the stuck event. -/
namespace K19
open PySem L2 K19M
section
variable {K : PySem.W.Frag} {H H' H2 : Hp} {Z : Za}
theorem but_same {d : Addr} (s : Same H H') : But d H H' := fun b o h _ => s b o h
theorem But.trans {d : Addr} (s : But d H H') (t : But d H' H2) : But d H H2 := fun b o h q => t b o (s b o h q) q
theorem But.tex {d : Addr} {u : HO} (s : But d H H') (h : H d = some u) (hu : ∀ xs, u ≠ .tup xs) (hf : ∀ o' xs, u ≠ .frz o' (.tup xs)) : TupEx K H H' := fun q xs sq => by
  rcases sq with (sq | ⟨o', sq⟩) | sq
  · exact .inl (.inl (s _ _ sq (fun z => by rw [z, h] at sq; exact hu _ (Option.some.inj sq))))
  · exact .inl (.inr ⟨o', s _ _ sq (fun z => by rw [z, h] at sq; exact hf _ _ (Option.some.inj sq))⟩)
  · exact .inr sq
theorem But.texL {d : Addr} {xs : List V} (s : But d H H') (h : H d = some (.lst xs)) : TupEx K H H' := s.tex h (fun _ e => nomatch e) fun _ _ e => nomatch e
theorem But.texD {d : Addr} {kvs : List (Key × V)} (s : But d H H') (h : H d = some (.dK kvs)) : TupEx K H H' := s.tex h (fun _ e => nomatch e) fun _ _ e => nomatch e
theorem but_upd {d : Addr} {o : HO} (s : But d H H') : But d H (upd H' d o) := fun b x h q => by
  rw [upd_ne q]
  exact s b x h q
theorem DK.ne {d f : Addr} {xs : List V} {l : List (Str × PyData)} (h : DK K H d l) (hf : H f = some (.lst xs)) : d ≠ f := by
  obtain ⟨l', a, _⟩ := h
  exact ne_of a hf (fun z => nomatch z)
theorem DK.but {d f : Addr} {xs : List V} {l : List (Str × PyData)} (h : DK K H d l) (hf : H f = some (.lst xs)) (s : But f H H') : DK K H' d l := h.mono (s.texL hf) fun o e => s _ _ e (h.ne hf)
theorem YardAt.but {y f : Addr} {h : List Nat} {xs : List V} (q : YardAt K Z H y h) (hf : H f = some (.lst xs)) (s : But f H H') : YardAt K Z H' y h := by
  obtain ⟨dx, a, e, g⟩ := q
  exact ⟨dx, a, s _ _ e (ne_of e hf fun z => nomatch z), s.texL hf _ _ g⟩
/-- a Short -/
abbrev Sho : Type := Nat × (Nat × Nat) × List Str
def ShortAt (K : PySem.W.Frag) (Z : Za) (H : Hp) (x : Addr) (e : Sho) : Prop := ∃ dx s l, H x = some (.ins Z.S dx [("cover", .int (e.1 : Int)), ("stretch", .ref s), ("stayers", .ref l)]) ∧
  SqT K H s [.int (e.2.1.1 : Int), .int (e.2.1.2 : Int)] ∧ SqT K H l (e.2.2.map V.str)
theorem ShortAt.but {x f : Addr} {e : Sho} {xs : List V} (q : ShortAt K Z H x e) (hf : H f = some (.lst xs)) (s : But f H H') : ShortAt K Z H' x e := by
  obtain ⟨dx, a, l, h1, h2, h3⟩ := q
  exact ⟨dx, a, l, s _ _ h1 (ne_of h1 hf fun z => nomatch z), s.texL hf _ _ h2, s.texL hf _ _ h3⟩
theorem ShortAt.same {x : Addr} {e : Sho} (q : ShortAt K Z H x e) (s : Same H H') : ShortAt K Z H' x e := by
  obtain ⟨dx, a, l, h1, h2, h3⟩ := q
  exact ⟨dx, a, l, s _ _ h1, tex s _ _ h2, tex s _ _ h3⟩
def ShAll (K : PySem.W.Frag) (Z : Za) (H : Hp) (xs : List V) (L : List Sho) : Prop := xs.length = L.length ∧ ∀ (i : Nat) (e : Sho), L[i]? = some e → ∃ p : Addr, xs[i]? = some (V.ref p) ∧ ShortAt K Z H p e
theorem ShAll.snoc {xs : List V} {L : List Sho} {p : Addr} {e : Sho} (h : ShAll K Z H xs L) (q : ShortAt K Z H p e) : ShAll K Z H (xs ++ [V.ref p]) (L ++ [e]) := by
  have hl0 : (xs ++ [V.ref p]).length = (L ++ [e]).length := by
    rw [List.length_append, List.length_append, h.1, List.length_singleton, List.length_singleton]
  refine ⟨hl0, fun i e' he => ?_⟩
  by_cases hi : i < L.length
  · rw [List.getElem?_append_left hi] at he
    obtain ⟨p', h1, h2⟩ := h.2 i e' he
    exact ⟨p', by rw [List.getElem?_append_left (by rw [h.1]; exact hi)]; exact h1, h2⟩
  · rw [List.getElem?_append_right (by omega)] at he
    have hl := (List.getElem?_eq_some_iff.mp he).1
    have h0 : i - L.length = 0 := by
      rw [List.length_singleton] at hl
      omega
    rw [h0] at he
    cases he
    refine ⟨p, ?_, q⟩
    rw [List.getElem?_append_right (by rw [h.1]; omega), h.1, h0]
    rfl
theorem ShAll.mono {xs : List V} {L : List Sho} (h : ShAll K Z H xs L) (m : ∀ p e, ShortAt K Z H p e → ShortAt K Z H' p e) : ShAll K Z H' xs L := ⟨h.1, fun i e he => by
  obtain ⟨p, a, b⟩ := h.2 i e he
  exact ⟨p, a, m p e b⟩⟩
def shortRow (h : List Nat) (tab : List (Str × Nat × Nat)) (u : Nat) (r : Nat × Nat) : Option Sho := if (stayL tab r.1 r.2).length < owed h u then some (u, r, sortT (stayL tab r.1 r.2)) else none
def shortsL (h : List Nat) (evs : List (Bool × Str)) : List Sho := (List.range (maxH h)).flatMap fun u => (rows u (cnts h.sum evs)).filterMap (shortRow h (tabOf evs) u)
theorem flat_take {β γ : Type} (f : β → List γ) {l : List β} {i : Nat} {e : β} (h : l[i]? = some e) : (l.take (i + 1)).flatMap f = (l.take i).flatMap f ++ f e := by
  rw [List.take_add_one, h, List.flatMap_append]
  show _ ++ (f e ++ []) = _
  rw [List.append_nil]
theorem fmap_take {β γ : Type} (f : β → Option γ) {l : List β} {i : Nat} {e : β} (h : l[i]? = some e) : (l.take (i + 1)).filterMap f = (l.take i).filterMap f ++ (f e).toList := by
  rw [List.take_add_one, h, List.filterMap_append]
  have : List.filterMap f [e] = (f e).toList := by
    rw [List.filterMap_cons]
    cases f e <;> rfl
  exact congrArg _ this
theorem tabGo_len (T : Nat) : ∀ (es : List (Bool × Str)) (k : Nat) (tab : List (Str × Nat × Nat)), (tabGo T k tab es).length ≤ tab.length + es.length
  | [], _, _ => Nat.le_refl _
  | e :: es, k, tab => by
    have h1 := tabGo_len T es (k + 1) (tabStep T k tab e)
    have h2 := tabStep_len T k tab e
    show (tabGo T (k + 1) (tabStep T k tab e) es).length ≤ tab.length + (es.length + 1)
    omega
theorem tabOf_len (evs : List (Bool × Str)) : (tabOf evs).length ≤ evs.length := by
  have := tabGo_len evs.length evs 0 []
  rw [List.length_nil, Nat.zero_add] at this
  exact this
theorem Giv.nd {y t : Addr} {h : List Nat} {evs : List (Bool × Str)} (g : Giv K Z H y t h evs) : ((tabOf evs).map (·.1)).Nodup := (book_of (fun _ => 0) g.tt).nd
theorem Giv.hl {y t : Addr} {h : List Nat} {evs : List (Bool × Str)} (g : Giv K Z H y t h evs) : h.length ≤ 12 := (menu_ok h g.hm).l12
theorem rows_len (u : Nat) (cs : List Nat) : (rows u cs).length ≤ cs.length + 1 := rowsGo_len u cs 0 none
theorem row_inv {v : V} {r : Nat × Nat} (h : Dt K H v (rowD r)) : ∃ t, v = .ref t ∧ SqT K H t [.int (r.1 : Int), .int (r.2 : Int)] := pair_inv h
theorem zs_mem {n : Int} {l : List Nat} (h : n ∈ zs l) : ∃ m ∈ l, n = (m : Int) := by
  obtain ⟨m, a, b⟩ := List.mem_map.mp h
  exact ⟨m, a, b.symm⟩
theorem zs_sorted {ns : List Int} {ls : List Nat} (p : ns.Perm (zs ls)) (s : ns.Pairwise (· ≤ ·)) : ns = zs (ls.mergeSort fun a b => decide (a ≤ b)) := by
  have e1 : (zs ls).map Int.toNat = ls := by
    unfold zs
    rw [List.map_map]
    exact (List.map_congr_left fun _ _ => rfl).trans (List.map_id ls)
  have p2 : (ns.map Int.toNat).Perm ls := e1 ▸ p.map Int.toNat
  have e2 : ns = zs (ns.map Int.toNat) := by
    unfold zs
    rw [List.map_map]
    refine ((List.map_congr_left fun n hn => ?_).trans (List.map_id ns)).symm
    obtain ⟨m, _, rfl⟩ := zs_mem (p.mem_iff.mp hn)
    rfl
  have s2 : (ns.map Int.toNat).Pairwise (· ≤ ·) := List.pairwise_map.mpr (s.imp fun h => Int.toNat_le_toNat h)
  rw [← sorted_eq p2 s2]
  exact e2
end
section
variable {P : Program} {w : World} {K : PySem.W.Frag} {mg : Str → Option Value} {base : Heap} {Z : Za}
def sp_Dealt_init (K : PySem.W.Frag) (Z : Za) : Sp := fun vs H Q _ => ∃ x dx v, vs = [.ref x, v] ∧ H x = some (.ins Z.D dx []) ∧ ∀ H', But x H H' → H' x = some (.ins Z.D dx [("table", v)]) → Q .non H'
theorem m_Dealt {f : Addr} {fd : FuncData} (F : Fun K "__init__" "Dealt.__init__" s_Dealt__init f fd) (T : Bl mg)   (C : Cf K Z) : FnOk P w K mg base CX0 1 f fd ["self", "table"] (sp_Dealt_init K Z) := by
  refine F.ok sc_Dealt__init (fun vs H Q E h => ?_) (fun cdv A outer s H vs Q E hr h => ?_)
  · obtain ⟨x, dx, v, rfl, _⟩ := h
    rfl
  · obtain ⟨x, dx, v, rfl, hx, k⟩ := h
    refine ⟨_, (pss_one (ps_fld (pv 0) (pv 1) rfl)), ?_⟩
    exact ⟨_, rfl, _, rfl, x, Z.D, dx, [], rfl, hx, C.dc, C.dt, (by show 0 < 1000; decide), k _ (but_upd (but_same same_refl)) upd_same⟩
theorem put2 (a b : V) : putF ("stretch" : Str) b ([("cover", a)] : List (Str × V)) = ([("cover", a), ("stretch", b)] : List (Str × V)) := by
  show (if ("cover" : Str) = "stretch" then [(("cover" : Str), b)] else (("cover" : Str), a) :: putF "stretch" b []) = ([("cover", a), ("stretch", b)] : List (Str × V))
  rw [if_neg (by decide +kernel)]
  rfl
theorem put3 (a b c : V) : putF ("stayers" : Str) c ([("cover", a), ("stretch", b)] : List (Str × V)) = ([("cover", a), ("stretch", b), ("stayers", c)] : List (Str × V)) := by
  show (if ("cover" : Str) = "stayers" then [(("cover" : Str), c), ("stretch", b)] else (("cover" : Str), a) :: (if ("stretch" : Str) = "stayers" then [(("stretch" : Str), c)] else (("stretch" : Str), b) :: putF "stayers" c [])) = ([("cover", a), ("stretch", b), ("stayers", c)] : List (Str × V))
  rw [if_neg (by decide +kernel), if_neg (by decide +kernel)]
  rfl
def sp_Short_init (K : PySem.W.Frag) (Z : Za) : Sp := fun vs H Q _ => ∃ x dx a b c, vs = [.ref x, a, b, c] ∧ H x = some (.ins Z.S dx []) ∧ ∀ H', But x H H' → H' x = some (.ins Z.S dx [("cover", a), ("stretch", b), ("stayers", c)]) → Q .non H'
theorem m_Short {f : Addr} {fd : FuncData} (F : Fun K "__init__" "Short.__init__" s_Short__init f fd) (T : Bl mg)   (C : Cf K Z) : FnOk P w K mg base CX0 1 f fd ["self", "cover", "stretch", "stayers"] (sp_Short_init K Z) := by
  refine F.ok sc_Short__init (fun vs H Q E h => ?_) (fun cdv A outer s H vs Q E hr h => ?_)
  · obtain ⟨x, dx, a, b, c, rfl, _⟩ := h
    rfl
  · obtain ⟨x, dx, a, b, c, rfl, hx, k⟩ := h
    refine ⟨_, (pss_cons (ps_fld (pv 0) (pv 1) rfl)
      (pss_cons (ps_fld (pv 0) (pv 2) rfl)
      (pss_one (ps_fld (pv 0) (pv 3) rfl)))), ?_⟩
    refine ⟨_, rfl, _, rfl, x, Z.S, dx, [], rfl, hx, C.sc, C.s1, (by show 0 < 1000; decide), ?_⟩
    refine ⟨_, rfl, _, rfl, x, Z.S, dx, _, rfl, upd_same, C.sc, C.s2, (by show 1 < 1000; decide), ?_⟩
    rw [show putF (Str.ofString "stretch") b (putF (Str.ofString "cover") a []) = ([("cover", a), ("stretch", b)] : List (Str × V)) from put2 a b]
    refine ⟨_, rfl, _, rfl, x, Z.S, dx, _, rfl, upd_same, C.sc, C.s3, (by show 2 < 1000; decide), ?_⟩
    rw [show putF (Str.ofString "stayers") c ([("cover", a), ("stretch", b)] : List (Str × V)) = ([("cover", a), ("stretch", b), ("stayers", c)] : List (Str × V)) from put3 a b c]
    exact k _ (but_upd (but_upd (but_upd (but_same same_refl)))) upd_same
def sp_shorts (K : PySem.W.Frag) (Z : Za) : Sp := fun vs H Q _ => ∃ (y t : Addr) (h : List Nat) (evs : List (Bool × Str)), vs = [.ref y, .ref t] ∧ Giv K Z H y t h evs ∧
  ∀ H' p xs, Same H H' → SqT K H' p xs → ShAll K Z H' xs (shortsL h evs) → Q (.ref p) H'
theorem c_shorts {f : Addr} {fd : FuncData} (F : Fun K "shorts" "shorts" s_shorts f fd) (g : mg "shorts" = some (.ref f)) (T : Bl mg) (c_free_counts : Cal P w K mg base 6 "free_counts" ["yard", "timetable"] (sp_free_counts K Z)) (c_presence_table : Cal P w K mg base 1 "presence_table" ["timetable"] (sp_presence_table K Z)) (c_yard_covers : Cal P w K mg base 1 "yard_covers" ["yard"] (sp_yard_covers K Z)) (c_rows_below : Cal P w K mg base 1 "rows_below" ["counts", "cover"] (sp_rows_below K Z)) (c_staying : Cal P w K mg base 2 "staying" ["table", "stretch"] (sp_staying K Z)) (c_owed : Cal P w K mg base 1 "owed" ["yard", "cover"] (sp_owed K Z)) (m_Short : MkC P w K mg base 1 "Short" Z.S ["self", "cover", "stretch", "stayers"] (sp_Short_init K Z))  : Cal P w K mg base 7 "shorts" ["yard", "timetable"] (sp_shorts K Z) := by
  refine ⟨f, fd, g, F.kp, F.binds (ps := ["yard", "timetable"]) fun _ _ _ _ _ _ us hl => match us, hl with | [_, _], _ => rfl, F.ok sc_shorts (fun vs H Q E h => ?_) (fun cdv A outer s H vs Q E hr h => ?_)⟩
  · obtain ⟨y, t, h, evs, rfl, _⟩ := h
    rfl
  · obtain ⟨y, t, h, evs, rfl, G, k⟩ := h
    refine ⟨_, (pss_cons (ps_set (i := 2) sc_shorts.nd rfl (.inl rfl) (pe_cal c_free_counts (hr.mono (by decide)) (by rfl) (pa_cons (pv 0) (pa_cons (pv 1) pa_nil))))
      (pss_cons (ps_set (i := 3) sc_shorts.nd rfl (.inl rfl) (pe_cal c_presence_table (hr.mono (by decide)) (by rfl) (pa_cons (pv 1) pa_nil)))
      (pss_cons (ps_set (i := 4) sc_shorts.nd rfl (.inl rfl) (pe_lst pa_nil))
      (pss_cons (ps_for PassesOwn.never rfl (pi_list (pe_cal c_yard_covers (hr.mono (by decide)) (by rfl) (pa_cons (pv 0) pa_nil))) (pg_name (i := 5) sc_shorts.nd rfl (.inl rfl))
        (pss_one (ps_for PassesOwn.never rfl (pi_list (pe_cal c_rows_below (hr.mono (by decide)) (by rfl) (pa_cons (pv 2) (pa_cons (pv 5) pa_nil)))) (pg_name (i := 6) sc_shorts.nd rfl (.inl rfl))
          (pss_cons (ps_set (i := 7) sc_shorts.nd rfl (.inl rfl) (pe_cal c_staying (hr.mono (by decide)) (by rfl) (pa_cons (pv 3) (pa_cons (pv 6) pa_nil))))
          (pss_one (ps_if (pt_cmpR op_lt (pe_callB call_len_seq (by rfl) T.b_len PySem.boot_len (pa_cons (pv 7) pa_nil)) (pe_cal c_owed (hr.mono (by decide)) (by rfl) (pa_cons (pv 0) (pa_cons (pv 5) pa_nil))) (nomark _))
            (pss_one (ps_expr (pe_bm PySem.F.plainAttrs_list PySem.F.slot_list_append PySem.F.type_list_append mt_append (pv 4) (pa_cons (pe_mk m_Short (hr.mono (by decide)) (by rfl) (pa_cons (pv 5) (pa_cons (pv 6) (pa_cons (pv 7) pa_nil)))) pa_nil))))
            pss_nil))))))
      (pss_one (ps_ret (pe_callTy call_tuple_of (by rfl) T.b_tuple (by decide +kernel) (pa_cons (pv 4) pa_nil)))))))), ?_⟩
    refine ⟨_, rfl, _, rfl, y, t, h, evs, rfl, G, fun H1 c s1 hc => ?_⟩
    refine ⟨_, rfl, t, h.sum, evs, rfl, (G.same s1).tm, G.tt, G.len, fun H2 d s2 nd hd => ?_⟩
    refine ⟨Nat.zero_le _, fun f nf => ?_⟩
    have s3 := same_new (o := .lst []) nf
    have hf0 : (upd H2 f (.lst [])) f = some (.lst []) := upd_same
    have G3 := ((G.same s1).same s2).same s3
    have sF : Same H (upd H2 f (.lst [])) := (s1.trans s2).trans s3
    have hc3 := tex s3 _ _ (tex s2 _ _ hc)
    have hd3 := hd.same s3
    have nfH : H f = none := (s1.trans s2).free nf
    generalize upd H2 f (.lst []) = HF at hf0 G3 sF hc3 hd3
    refine ⟨_, rfl, y, h, rfl, G3.yd, G.hm, fun H4 p s4 np hp => ⟨p, rfl, ⟨_, .inl (.inl hp)⟩, ?_⟩⟩
    have npf : p ≠ f := (ne_of_none hf0 np).symm
    have hcl : (cnts h.sum evs).length ≤ 101 := by
      rw [cnts_len]
      have := G.len
      omega
    have hmx := (menu_max h G.hm).1
    refine for_it walk_list (fun i σ H5 => ∃ v5 v6 v7 acc, σ = [some (.ref y), some (.ref t), some (.ref c), some (.ref d), some (.ref f), v5, v6, v7] ∧ But f HF H5 ∧ H5 p = some (.lst (hV (List.range (maxH h)))) ∧ H5 f = some (.lst acc) ∧
      ShAll K Z H5 acc (((List.range (maxH h)).take i).flatMap fun u => (rows u (cnts h.sum evs)).filterMap (shortRow h (tabOf evs) u)) ∧ acc.length ≤ 200 * i) ⟨_, _, _, [], rfl, but_same s4, hp, s4 _ _ hf0, ⟨rfl, fun i e he => nomatch he⟩, Nat.zero_le _⟩ (fun i σ H5 _ ⟨_, _, _, _, _, _, z, _⟩ => .inl (.inl z)) ?_ ?_
    · rintro i x σ H5 H6 hi ⟨v5, v6, v7, acc, rfl, b5, p5, f5, S5, al⟩ ⟨rfl, hx⟩
      obtain ⟨u, hu', rfl⟩ := hV_get hx
      have hui : u = i := by
        have hi2 : i < maxH h := by
          rw [hV_len, List.length_range] at hi
          exact hi
        rw [List.getElem?_range hi2] at hu'
        exact (Option.some.inj hu').symm
      subst hui
      have hi3 : u < 3 := by
        rw [hV_len, List.length_range] at hi
        omega
      have m5 : TupEx K HF H6 := b5.texL hf0
      refine ⟨_, rfl, _, rfl, c, cnts h.sum evs, u, rfl, m5 _ _ hc3, hcl, fun H7 q xs s7 nq hq hxs => ⟨q, rfl, ⟨_, .inl (.inl hq)⟩, ?_⟩⟩
      have nqf : q ≠ f := (ne_of_none f5 nq).symm
      refine for_it walk_list (fun j σ H8 => ∃ v6 v7 acc, σ = [some (.ref y), some (.ref t), some (.ref c), some (.ref d), some (.ref f), some (.int (u : Int)), v6, v7] ∧ But f HF H8 ∧ H8 p = some (.lst (hV (List.range (maxH h)))) ∧ H8 q = some (.lst xs) ∧ DtAll K H8 xs ((rows u (cnts h.sum evs)).map rowD) ∧ H8 f = some (.lst acc) ∧
        ShAll K Z H8 acc ((((List.range (maxH h)).take u).flatMap fun u => (rows u (cnts h.sum evs)).filterMap (shortRow h (tabOf evs) u)) ++ ((rows u (cnts h.sum evs)).take j).filterMap (shortRow h (tabOf evs) u)) ∧ acc.length ≤ 200 * u + j)
        ⟨_, _, acc, rfl, b5.same s7, s7 _ _ p5, hq, hxs, s7 _ _ f5, by rw [List.take_zero]; show ShAll K Z H7 acc (_ ++ []); rw [List.append_nil]; exact S5.mono fun p e z => z.same s7, al⟩ (fun j σ H8 _ ⟨_, _, _, _, _, _, z, _⟩ => .inl (.inl z)) ?_ ?_
      · rintro j x σ H8 H9 hj ⟨v6, v7, acc, rfl, b8, p8, q8, x8, f8, S8, al8⟩ ⟨rfl, hxj⟩
        obtain ⟨rd, hrd, dt⟩ := DtAll.get x8 hxj
        rw [List.getElem?_map] at hrd
        obtain ⟨r, hr', rfl⟩ := Option.map_eq_some_iff.mp hrd
        obtain ⟨rt, rfl, hrt⟩ := row_inv dt
        have m8 : TupEx K HF H9 := b8.texL hf0
        have D8 := hd3.but hf0 b8
        have Y8 := G3.yd.but hf0 b8
        have hxl := DtAll.length x8
        rw [List.length_map] at hxl
        have hrl := rows_len u (cnts h.sum evs)
        have efm := fmap_take (shortRow h (tabOf evs) u) hr'
        refine ⟨_, rfl, _, rfl, d, rt, tabOf evs, r.1, r.2, rfl, D8, hrt, G.nd, Nat.le_trans (tabOf_len evs) G.len, fun HA l sA hl => ?_⟩
        refine ⟨_, rfl, l, _, rfl, .inr hl, _, rfl, _, rfl, y, h, u, rfl, Y8.same sA, G.hl, fun HB sB => ?_⟩
        have sAB := sA.trans sB
        have hlB := tex sB _ _ hl
        have hrB := tex sAB _ _ hrt
        have slen : ((sortT (stayL (tabOf evs) r.1 r.2)).map V.str).length = (stayL (tabOf evs) r.1 r.2).length := by
          rw [List.length_map, (sortT_perm _).length_eq]
        refine ⟨_, _, rfl, rfl, _, rfl, ite2 (fun z => ?_) fun z => ?_⟩
        · have hlt : (stayL (tabOf evs) r.1 r.2).length < owed h u := by
            have z' := of_decide_eq_true z
            rw [slen] at z'
            omega
          have esr : shortRow h (tabOf evs) u r = some (u, r, sortT (stayL (tabOf evs) r.1 r.2)) := if_pos hlt
          refine ⟨_, rfl, .inl ⟨rfl, _, .inl (.inl (sAB _ _ f8))⟩, _, rfl, _, rfl, _, rfl, fun xa dx nx ndx nex => ?_⟩
          refine ⟨xa, dx, _, _, _, rfl, upd_same, fun HC bC hC => ⟨rfl, ?_⟩⟩
          have sBC : Same HB HC := fun b o ob => by
            have hbx : b ≠ xa := ne_of_none ob nx
            refine bC b o ?_ hbx
            rw [upd_ne hbx, upd_ne (ne_of_none ob ndx)]
            exact ob
          have sAC := sAB.trans sBC
          have fC := sAC _ _ f8
          have bU : But f HC (upd HC f (.lst (acc ++ [.ref xa]))) := but_upd (but_same same_refl)
          refine ⟨f, acc, _, rfl, rfl, fC, small1000 (by omega), _, _, _, rfl, but_upd (b8.same sAC), ?_, ?_, ?_, upd_same, ?_, ?_⟩
          · rw [upd_ne npf]
            exact sAC _ _ p8
          · rw [upd_ne nqf]
            exact sAC _ _ q8
          · exact DtAll.mono ((tex sAC).trans (bU.texL fC)) _ _ x8
          · rw [efm, esr, ← List.append_assoc]
            refine ShAll.snoc (S8.mono fun p e z => (z.same sAC).but fC bU) ?_
            exact ShortAt.but ⟨dx, rt, l, hC, tex sBC _ _ hrB, tex sBC _ _ hlB⟩ fC bU
          · rw [List.length_append, List.length_singleton]
            omega
        · have hlt : ¬ (stayL (tabOf evs) r.1 r.2).length < owed h u := fun q => z (decide_eq_true (by rw [slen]; omega))
          have esr : shortRow h (tabOf evs) u r = none := if_neg hlt
          refine ⟨_, _, acc, rfl, b8.same sAB, sAB _ _ p8, sAB _ _ q8, DtAll.mono (tex sAB) _ _ x8, sAB _ _ f8, ?_, by omega⟩
          rw [efm, esr]
          show ShAll K Z HB acc (_ ++ (_ ++ []))
          rw [List.append_nil]
          exact S8.mono fun p e z => z.same sAB
      · rintro σ H8 ⟨v6, v7, acc, rfl, b8, p8, q8, x8, f8, S8, al8⟩
        have hxl := DtAll.length x8
        rw [List.length_map] at hxl
        have hrl := rows_len u (cnts h.sum evs)
        refine ⟨_, _, _, acc, rfl, b8, p8, f8, ?_, by omega⟩
        rw [hxl, List.take_length] at S8
        rw [flat_take _ hu']
        exact S8
    · rintro σ H5 ⟨v5, v6, v7, acc, rfl, b5, p5, f5, S5, al⟩
      rw [hV_len, List.take_length] at S5
      refine ⟨_, rfl, f, _, rfl, .inl ⟨.inl (.inl f5), fun r nr => ?_⟩⟩
      have s6 := same_new (o := .tup acc) nr
      exact k _ r acc (fun b o ob => s6 _ _ (b5 _ _ (sF _ _ ob) (ne_of_none ob nfH))) (.inl (.inl upd_same)) (S5.mono fun p e z => z.same s6)
end
end K19
end

section
set_option Elab.async false
set_option linter.all false
set_option maxRecDepth 100000
set_option maxHeartbeats 8000000
/-! W7: the stuck event; how far a stretch goes. -/
namespace K19
open PySem L2 K19M
section
variable {P : Program} {w : World} {K : PySem.W.Frag} {mg : Str → Option Value} {base : Heap} {Z : Za}
theorem leaves_eq (tab : List (Str × Nat × Nat)) (a : Nat) : zs (leavesAt (tab.map (·.2)) a) = ((tab.filter fun e => decide (e.2.1 ≤ a) && decide (a ≤ e.2.2)).map fun e => ((e.2.2 : Nat) : Int)) := by
  unfold zs leavesAt
  rw [List.filter_map, List.map_map, List.map_map]
  rfl
def sp_stuck_event (K : PySem.W.Frag) (Z : Za) : Sp := fun vs H Q _ => ∃ (y t : Addr) (h : List Nat) (evs : List (Bool × Str)), vs = [.ref y, .ref t] ∧ Giv K Z H y t h evs ∧
  ∀ H', Same H H' → (stuckL h evs = [] → Q .non H') ∧ ∀ e ∈ stuckL h evs, (∀ y ∈ stuckL h evs, e ≤ y) → Q (.int (e : Int)) H'
theorem ok_stuck_event {f : Addr} {fd : FuncData} (F : Fun K "stuck_event" "stuck_event" s_stuck_event f fd) (T : Bl mg) (c_free_counts : Cal P w K mg base 6 "free_counts" ["yard", "timetable"] (sp_free_counts K Z)) (c_presence_table : Cal P w K mg base 1 "presence_table" ["timetable"] (sp_presence_table K Z)) (c_yard_covers : Cal P w K mg base 1 "yard_covers" ["yard"] (sp_yard_covers K Z)) (c_rows_below : Cal P w K mg base 1 "rows_below" ["counts", "cover"] (sp_rows_below K Z)) (c_owed : Cal P w K mg base 1 "owed" ["yard", "cover"] (sp_owed K Z))  : FnOk P w K mg base CX0 7 f fd ["yard", "timetable"] (sp_stuck_event K Z) := by
  refine F.ok sc_stuck_event (fun vs H Q E h => ?_) (fun cdv A outer s H vs Q E hr h => ?_)
  · obtain ⟨y, t, h, evs, rfl, _⟩ := h
    rfl
  · obtain ⟨y, t, h, evs, rfl, G, k⟩ := h
    refine ⟨_, (pss_cons (ps_set (i := 2) sc_stuck_event.nd rfl (.inl rfl) (pe_cal c_free_counts (hr.mono (by decide)) (by rfl) (pa_cons (pv 0) (pa_cons (pv 1) pa_nil))))
      (pss_cons (ps_set (i := 3) sc_stuck_event.nd rfl (.inl rfl) (pe_cal c_presence_table (hr.mono (by decide)) (by rfl) (pa_cons (pv 1) pa_nil)))
      (pss_cons (ps_set (i := 4) sc_stuck_event.nd rfl (.inl rfl) (pe_lst pa_nil))
      (pss_cons (ps_for PassesOwn.never rfl (pi_list (pe_cal c_yard_covers (hr.mono (by decide)) (by rfl) (pa_cons (pv 0) pa_nil))) (pg_name (i := 5) sc_stuck_event.nd rfl (.inl rfl))
        (pss_one (ps_for PassesOwn.never rfl (pi_list (pe_cal c_rows_below (hr.mono (by decide)) (by rfl) (pa_cons (pv 2) (pa_cons (pv 5) pa_nil)))) (pg_tup rfl (pgs_cons (pg_name (i := 6) sc_stuck_event.nd rfl (.inr rfl)) (pgs_cons (pg_name (i := 7) sc_stuck_event.nd rfl (.inl rfl)) pgs_nil)))
          (pss_cons (ps_set (i := 8) sc_stuck_event.nd rfl (.inl rfl) (pe_callB cr_sortedI (by rfl) T.b_sorted (by decide +kernel) (pa_cons (pe_lock (pe_lc (g := (gTup K 2 (gCons (gName 10) (gCons (gName 11) gNil)))) (own := [("come", 10), ("leave", 11)]) rfl sc_stuck_event.nd (pi_values (pv 3)) (blkOk_by (own := [("come", 10), ("leave", 11)]) (N := n_stuck_event) (sc := defScope s_stuck_event) (by decide +kernel)) (fun _ _ _ _ _ => (pg_tup rfl (pgs_cons (pg_name (i := 10) sc_stuck_event.nd rfl (.inl rfl) (.inr rfl)) (pgs_cons (pg_name (i := 11) sc_stuck_event.nd rfl (.inl rfl) (.inr rfl)) pgs_nil)))) (fun _ _ _ _ _ => (pts_one (pt_chain op_le op_le (pv 10) (pv 6) (pv 11)))) (fun _ _ _ _ _ => (pv 11)))) pa_nil)))
          (pss_cons (ps_set (i := 9) sc_stuck_event.nd rfl (.inl rfl) (pe_ix ix_list (pv 8) (pe_op op_sub (pe_callB call_len_seq (by rfl) T.b_len PySem.boot_len (pa_cons (pv 8) pa_nil)) (pe_cal c_owed (hr.mono (by decide)) (by rfl) (pa_cons (pv 0) (pa_cons (pv 5) pa_nil)))) (fun _ _ => rfl)))
          (pss_one (ps_if (pt_cmpR op_lt (pv 9) (pv 7) (nomark _))
            (pss_one (ps_expr (pe_bm PySem.F.plainAttrs_list PySem.F.slot_list_append PySem.F.type_list_append mt_append (pv 4) (pa_cons (pv 9) pa_nil))))
            pss_nil)))))))
      (pss_one (ps_ret (pe_ifExp (pt_cmpR (op_neD hr.units) (pv 4) (pe_lst pa_nil) (nomark _)) (pe_callB (cr_min rfl) (by rfl) T.b_min (by decide +kernel) (pa_cons (pv 4) pa_nil)) pe_non))))))), ?_⟩
    refine ⟨_, rfl, _, rfl, y, t, h, evs, rfl, G, fun H1 c s1 hc => ?_⟩
    refine ⟨_, rfl, t, h.sum, evs, rfl, (G.same s1).tm, G.tt, G.len, fun H2 d s2 nd hd => ?_⟩
    refine ⟨Nat.zero_le _, fun f nf => ?_⟩
    have s3 := same_new (o := .lst []) nf
    have hf0 : (upd H2 f (.lst [])) f = some (.lst []) := upd_same
    have G3 := ((G.same s1).same s2).same s3
    have sF : Same H (upd H2 f (.lst [])) := (s1.trans s2).trans s3
    have hc3 := tex s3 _ _ (tex s2 _ _ hc)
    have hd3 := hd.same s3
    have nfH : H f = none := (s1.trans s2).free nf
    generalize upd H2 f (.lst []) = HF at hf0 G3 sF hc3 hd3
    refine ⟨_, rfl, y, h, rfl, G3.yd, G.hm, fun H4 p s4 np hp => ⟨p, rfl, ⟨_, .inl (.inl hp)⟩, ?_⟩⟩
    have npf : p ≠ f := (ne_of_none hf0 np).symm
    have hcl : (cnts h.sum evs).length ≤ 101 := by
      rw [cnts_len]
      have := G.len
      omega
    have hmx := (menu_max h G.hm).1
    refine for_it walk_list (fun i σ H5 => ∃ v5 v6 v7 v8 v9 v10 v11 F, σ = [some (.ref y), some (.ref t), some (.ref c), some (.ref d), some (.ref f), v5, v6, v7, v8, v9, v10, v11] ∧ But f HF H5 ∧ H5 p = some (.lst (hV (List.range (maxH h)))) ∧ H5 f = some (.lst (hV F)) ∧
      F = ((List.range (maxH h)).take i).flatMap (fun u => (rows u (cnts h.sum evs)).filterMap (lateRow h ((tabOf evs).map (·.2)) u)) ∧ F.length ≤ 200 * i) ⟨_, _, _, _, _, _, _, [], rfl, but_same s4, hp, s4 _ _ hf0, rfl, Nat.zero_le _⟩ (fun i σ H5 _ ⟨_, _, _, _, _, _, _, _, _, _, z, _⟩ => .inl (.inl z)) ?_ ?_
    · rintro i x σ H5 H6 hi ⟨v5, v6, v7, v8, v9, v10, v11, F, rfl, b5, p5, f5, eF, al⟩ ⟨rfl, hx⟩
      obtain ⟨u, hu', rfl⟩ := hV_get hx
      have hi2 : i < maxH h := by
        rw [hV_len, List.length_range] at hi
        exact hi
      have hui : u = i := by
        rw [List.getElem?_range hi2] at hu'
        exact (Option.some.inj hu').symm
      subst hui
      have hi3 : u < 3 := by omega
      have ho1 : 1 ≤ owed h u := ((menu_max h G.hm).2 u hi3).mp hi2
      have m5 : TupEx K HF H6 := b5.texL hf0
      refine ⟨_, rfl, _, rfl, c, cnts h.sum evs, u, rfl, m5 _ _ hc3, hcl, fun H7 q xs s7 nq hq hxs => ⟨q, rfl, ⟨_, .inl (.inl hq)⟩, ?_⟩⟩
      have nqf : q ≠ f := (ne_of_none f5 nq).symm
      refine for_it walk_list (fun j σ H8 => ∃ v6 v7 v8 v9 v10 v11 F2, σ = [some (.ref y), some (.ref t), some (.ref c), some (.ref d), some (.ref f), some (.int (u : Int)), v6, v7, v8, v9, v10, v11] ∧ But f HF H8 ∧ H8 p = some (.lst (hV (List.range (maxH h)))) ∧ H8 q = some (.lst xs) ∧ DtAll K H8 xs ((rows u (cnts h.sum evs)).map rowD) ∧ H8 f = some (.lst (hV F2)) ∧
        F2 = F ++ ((rows u (cnts h.sum evs)).take j).filterMap (lateRow h ((tabOf evs).map (·.2)) u) ∧ F2.length ≤ 200 * u + j)
        ⟨_, _, _, _, _, _, F, rfl, b5.same s7, s7 _ _ p5, hq, hxs, s7 _ _ f5, (List.append_nil F).symm, al⟩ (fun j σ H8 _ ⟨_, _, _, _, _, _, _, _, _, _, z, _⟩ => .inl (.inl z)) ?_ ?_
      · rintro j x σ H8 H9 hj ⟨v6, v7, v8, v9, v10, v11, F2, rfl, b8, p8, q8, x8, f8, eF2, al8⟩ ⟨rfl, hxj⟩
        obtain ⟨rd, hrd, dt⟩ := DtAll.get x8 hxj
        rw [List.getElem?_map] at hrd
        obtain ⟨r, hr', rfl⟩ := Option.map_eq_some_iff.mp hrd
        obtain ⟨rt, rfl, hrt⟩ := row_inv dt
        have m8 : TupEx K HF H9 := b8.texL hf0
        have D8 := hd3.but hf0 b8
        have Y8 := G3.yd.but hf0 b8
        have hxl := DtAll.length x8
        rw [List.length_map] at hxl
        have hrl := rows_len u (cnts h.sum evs)
        have efm := fmap_take (lateRow h ((tabOf evs).map (·.2)) u) hr'
        have isr : IsRow u (cnts h.sum evs) r.1 r.2 := rows_sound (List.mem_of_getElem? hr')
        obtain ⟨ra, rb, rc⟩ := row_start G.hm (fun _ => 0) G.tt hi3 isr
        obtain ⟨l', d1, d2, d3⟩ := D8
        have llen : l'.length = (tabOf evs).length := by
          have := congrArg List.length d2
          rwa [List.length_map, List.length_map, tabD_len] at this
        have tl := tabOf_len evs
        have gl := G.len
        refine ⟨rt, _, rfl, hrt, rfl, _, _, rfl, _, _, rfl, rfl, ?_⟩
        -- the leaves
        refine ⟨d, _, d1, trivial, fun od => ?_⟩
        have b0 : But d H9 (upd H9 d (.frz od (.dK (tk l')))) := lock_but
        refine ⟨_, rfl, d, od, _, rfl, upd_same, fun D nD => ?_⟩
        have hDd : D ≠ d := fun z => by
          rw [z, upd_same] at nD
          cases nD
        refine lc_it walk_values (fun i H4 => But d H9 H4 ∧ H4 d = some (.frz od (.dK (tk l'))) ∧ H4 D = some (.lst (((((tabOf evs).take i).filter fun e => decide (e.2.1 ≤ r.1) && decide (r.1 ≤ e.2.2)).map fun e => ((e.2.2 : Nat) : Int)).map V.int))) ⟨b0.same (same_new nD), by rw [upd_ne hDd.symm]; exact upd_same, upd_same⟩ (fun i H4 _ z => z.2.1) ?_ ?_
        · rintro i x H4 H5' hi' ⟨b4, f4, a4⟩ ⟨rfl, key, hk⟩
          obtain ⟨⟨y', v'⟩, hy, ey⟩ := Option.map_eq_some_iff.mp (show ((l'[i]?).map fun e => ((Sum.inr e.1 : Key), e.2)) = some (key, x) by rw [← List.getElem?_map]; exact hk)
          obtain ⟨rfl, rfl⟩ := Prod.mk.inj ey
          obtain ⟨bb, hb, dt'⟩ := dk_at d2 d3 hy
          unfold tabD at hb
          rw [List.getElem?_map] at hb
          obtain ⟨⟨y2, cc, l⟩, hb', eb⟩ := Option.map_eq_some_iff.mp hb
          obtain ⟨rfl, rfl⟩ := Prod.mk.inj eb
          obtain ⟨ta, rfl, sa⟩ := pair_inv dt'
          have sa' := (b4.texD d1) _ _ sa
          have lenb : ((((tabOf evs).take i).filter fun e => decide (e.2.1 ≤ r.1) && decide (r.1 ≤ e.2.2)).map fun e => ((e.2.2 : Nat) : Int)).length ≤ 100 := by
            rw [List.length_map]
            refine Nat.le_trans (List.length_filter_le _ _) ?_
            rw [List.length_take]
            omega
          have no : ∀ hyes : ¬ (cc ≤ r.1 ∧ r.1 ≤ l), But d H9 H5' ∧ H5' d = some (.frz od (.dK (tk l'))) ∧ H5' D = some (.lst (((((tabOf evs).take (i + 1)).filter fun e => decide (e.2.1 ≤ r.1) && decide (r.1 ≤ e.2.2)).map fun e => ((e.2.2 : Nat) : Int)).map V.int)) := fun hyes => by
            refine ⟨b4, f4, ?_⟩
            rw [fm_take _ _ hb', if_neg (fun z => hyes (by
              obtain ⟨z1, z2⟩ := Bool.and_eq_true_iff.mp z
              exact ⟨of_decide_eq_true z1, of_decide_eq_true z2⟩)), List.append_nil]
            exact a4
          refine ⟨ta, _, rfl, sa', rfl, _, _, rfl, _, _, rfl, rfl, rfl, ?_⟩
          refine ⟨_, rfl, _, rfl, _, _, rfl, rfl, _, rfl, ite2 (fun q1 => ?_) fun q1 => ?_⟩
          · refine ⟨_, rfl, _, _, rfl, rfl, _, rfl, ite2 (fun q2 => ?_) fun q2 => ?_⟩
            · refine ⟨_, rfl, _, a4, by rw [List.length_map]; exact small1000 (by omega), fun b' o hb hn => ?_, ?_, ?_⟩
              · rw [upd_ne (fun z => by rw [z] at hb; rw [upd_ne hDd] at nD; rw [nD] at hb; cases hb)]
                exact b4 b' o hb hn
              · rw [upd_ne hDd.symm]
                exact f4
              · have z1 : (cc : Int) ≤ (r.1 : Int) := of_decide_eq_true q1
                have z2 : (r.1 : Int) ≤ (l : Int) := of_decide_eq_true q2
                rw [upd_same, fm_take _ _ hb', if_pos (Bool.and_eq_true_iff.mpr ⟨decide_eq_true (by show cc ≤ r.1; omega), decide_eq_true (by show r.1 ≤ l; omega)⟩), List.map_append]
                rfl
            · exact no fun z => q2 (decide_eq_true (show (r.1 : Int) ≤ (l : Int) by omega))
          · exact ⟨_, rfl, iteF (no fun z => q1 (decide_eq_true (show (cc : Int) ≤ (r.1 : Int) by omega)))⟩
        · rintro H4 ⟨b4, f4, a4⟩
          refine ⟨f4, ?_⟩
          have sU : Same H9 (upd H4 d (.dK (tk l'))) := unlock d1 b4
          have aD : (upd H4 d (.dK (tk l'))) D = some (.lst ((zs (leavesAt ((tabOf evs).map (·.2)) r.1)).map V.int)) := by
            rw [upd_ne hDd, a4, tk_len, llen, List.take_length, leaves_eq]
          refine ⟨D, _, rfl, .inl (.inl aD), fun ns' q' pm srt nq' => ?_⟩
          obtain rfl := zs_sorted pm srt
          have sV := sU.trans (same_new (o := .lst ((zs ((leavesAt ((tabOf evs).map (·.2)) r.1).mergeSort fun a b => decide (a ≤ b))).map V.int)) nq')
          have hq' : (upd (upd H4 d (.dK (tk l'))) q' (.lst ((zs ((leavesAt ((tabOf evs).map (·.2)) r.1).mergeSort fun a b => decide (a ≤ b))).map V.int))) q' = some (.lst (hV ((leavesAt ((tabOf evs).map (·.2)) r.1).mergeSort fun a b => decide (a ≤ b)))) := upd_same
          have lsl : ((leavesAt ((tabOf evs).map (·.2)) r.1).mergeSort fun a b => decide (a ≤ b)).length = (leavesAt ((tabOf evs).map (·.2)) r.1).length := List.length_mergeSort _
          refine ⟨_, rfl, _, rfl, q', _, rfl, .inl (.inl (.inl hq')), ?_⟩
          refine ⟨_, rfl, _, rfl, y, h, u, rfl, Y8.same sV, G.hl, fun HA sA => ?_⟩
          have sW := sV.trans sA
          have hqA := sA _ _ hq'
          refine ⟨_, _, rfl, rfl, q', _, _, .int ((nthLate (leavesAt ((tabOf evs).map (·.2)) r.1) (owed h u) : Nat) : Int), rfl, rfl, .inl (.inl hqA), ?_, ?_⟩
          · have ej : ((hV ((leavesAt ((tabOf evs).map (·.2)) r.1).mergeSort fun a b => decide (a ≤ b))).length : Int) - (owed h u : Int) = (((leavesAt ((tabOf evs).map (·.2)) r.1).length - owed h u : Nat) : Int) := by
              rw [hV_len, lsl]
              omega
            rw [ej]
            refine atI_nat (hV_at ?_)
            unfold nthLate
            rw [List.getD_eq_getElem?_getD, List.getElem?_eq_getElem (by rw [lsl]; omega)]
            rfl
          · have fA := sW _ _ f8
            refine ⟨_, rfl, _, rfl, _, _, rfl, rfl, _, rfl, ite2 (fun z => ?_) fun z => ?_⟩
            · have hlt : nthLate (leavesAt ((tabOf evs).map (·.2)) r.1) (owed h u) < r.2 := by
                have z' := of_decide_eq_true z
                omega
              have esr : lateRow h ((tabOf evs).map (·.2)) u r = some (nthLate (leavesAt ((tabOf evs).map (·.2)) r.1) (owed h u)) := if_pos hlt
              have bU : But f HA (upd HA f (.lst (hV F2 ++ [.int ((nthLate (leavesAt ((tabOf evs).map (·.2)) r.1) (owed h u) : Nat) : Int)]))) := but_upd (but_same same_refl)
              refine ⟨_, rfl, .inl ⟨rfl, _, .inl (.inl fA)⟩, _, rfl, f, _, _, rfl, rfl, fA, by rw [hV_len]; exact small1000 (by omega), _, _, _, _, _, _, F2 ++ [nthLate (leavesAt ((tabOf evs).map (·.2)) r.1) (owed h u)], rfl, but_upd (b8.same sW), ?_, ?_, ?_, ?_, ?_, ?_⟩
              · rw [upd_ne npf]
                exact sW _ _ p8
              · rw [upd_ne nqf]
                exact sW _ _ q8
              · exact DtAll.mono ((tex sW).trans (bU.texL fA)) _ _ x8
              · rw [upd_same, hV_app]
                rfl
              · rw [efm, esr, eF2, List.append_assoc]
                rfl
              · rw [List.length_append, List.length_singleton]
                omega
            · have hlt : ¬ nthLate (leavesAt ((tabOf evs).map (·.2)) r.1) (owed h u) < r.2 := fun q => z (decide_eq_true (by omega))
              have esr : lateRow h ((tabOf evs).map (·.2)) u r = none := if_neg hlt
              refine ⟨_, _, _, _, _, _, F2, rfl, b8.same sW, sW _ _ p8, sW _ _ q8, DtAll.mono (tex sW) _ _ x8, fA, ?_, by omega⟩
              rw [efm, esr]
              show F2 = F ++ (_ ++ [])
              rw [List.append_nil]
              exact eF2
      · rintro σ H8 ⟨v6, v7, v8, v9, v10, v11, F2, rfl, b8, p8, q8, x8, f8, eF2, al8⟩
        have hxl := DtAll.length x8
        rw [List.length_map] at hxl
        have hrl := rows_len u (cnts h.sum evs)
        refine ⟨_, _, _, _, _, _, _, F2, rfl, b8, p8, f8, ?_, by omega⟩
        rw [eF2, hxl, List.take_length, flat_take _ hu', eF]
    · rintro σ H5 ⟨v5, v6, v7, v8, v9, v10, v11, F, rfl, b5, p5, f5, eF, al⟩
      have eS : F = stuckL h evs := by
        rw [eF, hV_len, List.take_length]
        rfl
      have sH : Same H H5 := fun b o ob => b5 _ _ (sF _ _ ob) (ne_of_none ob nfH)
      refine ⟨_, rfl, Nat.zero_le _, fun e ne => ?_⟩
      have sE := same_new (o := .lst []) ne
      have fE := sE _ _ f5
      refine ⟨.list ((zs F).map PyData.int), .list [], .lst (.inl (.inl fE)) (DtAll.dp _ _ (DtAll.of_ints _)), .lst (.inl (.inl upd_same)) .nil, PySem.W.shaped_ints _, PySem.W.shaped_ints [], _, rfl, ?_⟩
      obtain ⟨k1, k2⟩ := k _ (sH.trans sE)
      cases F with
      | nil => exact iteF (k1 eS.symm)
      | cons a F =>
        refine iteT ⟨_, rfl, f, zs (a :: F), rfl, .inl (.inl fE), Nat.succ_pos _, fun m hm hle => ?_⟩
        obtain ⟨m', hm', rfl⟩ := zs_mem hm
        refine k2 m' (eS ▸ hm') fun y hy => ?_
        rw [← eS] at hy
        have := hle (y : Int) (List.mem_map.mpr ⟨y, hy, rfl⟩)
        omega
/-- how far a stretch goes that begins at s -/
def lastGo (cs : List Nat) (u : Nat) : Nat → Nat → Nat
  | 0, l => l
  | n + 1, l => match cs[l + 1]? with
    | some c => if c ≤ u then lastGo cs u n (l + 1) else l
    | none => l
def lastFrom (cs : List Nat) (s : Nat) : Nat := lastGo cs (cs.getD s 0) cs.length s
theorem lastGo_lt {cs : List Nat} {u : Nat} : ∀ (n l : Nat), l < cs.length → lastGo cs u n l < cs.length
  | 0, l, h => h
  | n + 1, l, h => by
    unfold lastGo
    cases e : cs[l + 1]? with
    | none => exact h
    | some c =>
      show (if c ≤ u then _ else _) < _
      split
      · exact lastGo_lt n (l + 1) (List.getElem?_eq_some_iff.mp e).1
      · exact h
def sp_stretch_from (K : PySem.W.Frag) (Z : Za) : Sp := fun vs H Q _ => ∃ (c : Addr) (cs : List Nat) (s : Nat), vs = [.ref c, .int (s : Int)] ∧ SqT K H c (hV cs) ∧ s < cs.length ∧
  ∀ H' p, Same H H' → SqT K H' p [.int (s : Int), .int (lastFrom cs s : Int)] → Q (.ref p) H'
theorem c_stretch_from {f : Addr} {fd : FuncData} (F : Fun K "stretch_from" "stretch_from" s_stretch_from f fd) (g : mg "stretch_from" = some (.ref f)) (T : Bl mg)   : Cal P w K mg base 1 "stretch_from" ["counts", "state"] (sp_stretch_from K Z) := by
  refine ⟨f, fd, g, F.kp, F.binds (ps := ["counts", "state"]) fun _ _ _ _ _ _ us hl => match us, hl with | [_, _], _ => rfl, F.ok sc_stretch_from (fun vs H Q E h => ?_) (fun cdv A outer s H vs Q E hr h => ?_)⟩
  · obtain ⟨c, cs, s, rfl, _⟩ := h
    rfl
  · obtain ⟨c, cs, n, rfl, hc, hs, k⟩ := h
    refine ⟨_, (pss_cons (ps_set (i := 2) sc_stretch_from.nd rfl (.inl rfl) (pv 1))
      (pss_cons (ps_while PassesOwn.never (PW.pt (pw_and (pt_cmpR op_lt (pe_op op_add (pv 2) pe_int) (pe_callB call_len_seq (by rfl) T.b_len PySem.boot_len (pa_cons (pv 0) pa_nil)) (nomark _)) (pw_and1 (pt_cmpR op_le (pe_ix ix_tup (pv 0) (pe_op op_add (pv 2) pe_int) (fun _ _ => rfl)) (pe_ix ix_tup (pv 0) (pv 1) (fun _ _ => rfl)) (nomark _)))))
        (pss_one (ps_aug (i := 2) sc_stretch_from.nd rfl (.inl rfl) pe_int ip_add)))
      (pss_one (ps_ret (pe_tup (pa_cons (pv 1) (pa_cons (pv 2) pa_nil))))))), ?_⟩
    refine ⟨_, rfl, fun m σ H' => H' = H ∧ ∃ l, σ = [some (.ref c), some (.int (n : Int)), some (.int ((l : Nat) : Int))] ∧ cs.length ≤ l + m ∧ l < cs.length ∧ lastGo cs (cs.getD n 0) m l = lastFrom cs n,
      ⟨cs.length, rfl, n, rfl, Nat.le_add_left _ _, hs, rfl⟩, ?_⟩
    rintro m σ H' ⟨rfl, l, rfl, hm, hl, e⟩
    have hn : cs[n]? = some (cs.getD n 0) := by
      rw [List.getD_eq_getElem?_getD, List.getElem?_eq_getElem hs]
      rfl
    refine ⟨_, rfl, _, _, rfl, rfl, _, rfl, c, _, rfl, .inr hc, _, _, rfl, rfl, _, rfl, ite2 (fun z => ?_) fun z => ?_⟩
    · have hl1 : l + 1 < cs.length := by
        have := of_decide_eq_true z
        rw [hV_len] at this
        omega
      have hx : cs[l + 1]? = some cs[l + 1] := List.getElem?_eq_getElem hl1
      obtain ⟨m, rfl⟩ : ∃ m', m = m' + 1 := ⟨m - 1, by omega⟩
      refine ⟨_, rfl, _, rfl, _, _, rfl, rfl, c, _, ((l + 1 : Nat) : Int), _, rfl, rfl, hc, atI_nat (hV_at hx), _, rfl, _, rfl, c, _, (n : Int), _, rfl, rfl, hc, atI_nat (hV_at hn), _, _, rfl, rfl, _, rfl, ite2 (fun z2 => ?_) fun z2 => ?_⟩
      · have hle : cs[l + 1] ≤ cs.getD n 0 := by
          have := of_decide_eq_true z2
          omega
        refine ⟨fun σ' H2 => H2 = H' ∧ ∃ l, σ' = [some (.ref c), some (.int (n : Int)), some (.int ((l : Nat) : Int))] ∧ cs.length ≤ l + m ∧ l < cs.length ∧ lastGo cs (cs.getD n 0) m l = lastFrom cs n, fun σ' H2 h2 => ⟨m, Nat.lt_succ_self _, h2⟩, ?_⟩
        refine ⟨_, rfl, _, _, rfl, rfl, rfl, l + 1, rfl, by omega, hl1, ?_⟩
        rw [← e]
        show _ = (match cs[l + 1]? with | some c => if c ≤ cs.getD n 0 then lastGo cs (cs.getD n 0) m (l + 1) else l | none => l)
        rw [hx]
        exact (if_pos hle).symm
      · have hle : ¬ cs[l + 1] ≤ cs.getD n 0 := fun q => z2 (decide_eq_true (by omega))
        have el : l = lastFrom cs n := by
          rw [← e]
          show _ = (match cs[l + 1]? with | some c => if c ≤ cs.getD n 0 then lastGo cs (cs.getD n 0) m (l + 1) else l | none => l)
          rw [hx]
          exact (if_neg hle).symm
        refine ⟨_, rfl, _, rfl, two, fun p np => k _ p (same_new np) (.inl (.inl ?_))⟩
        rw [upd_same, el]
    · have hl1 : cs.length ≤ l + 1 := Nat.le_of_not_lt fun q => z (decide_eq_true (by rw [hV_len]; omega))
      have el : l = lastFrom cs n := by
        rw [← e]
        cases m with
        | zero => rfl
        | succ m =>
          show _ = (match cs[l + 1]? with | some c => if c ≤ cs.getD n 0 then lastGo cs (cs.getD n 0) m (l + 1) else l | none => l)
          rw [List.getElem?_eq_none hl1]
      refine iteF ⟨_, rfl, _, rfl, two, fun p np => k _ p (same_new np) (.inl (.inl ?_))⟩
      rw [upd_same, el]
end
end K19
end

section
set_option Elab.async false
set_option linter.all false
set_option maxRecDepth 100000
set_option maxHeartbeats 8000000
/-! W8: the latest leavers, the rule's table, the court. -/
namespace K19
open PySem L2 K19M
/-- a dict comprehension over a walk -/
theorem dc_it {J : It} {n : Nat} {G : Hp → Prop} {Y : Nat → Hp → V → Hp → Prop} (w : Walk J n G Y) {g : TG} {tt : TT} {tk tv : TE} {vs : List Nat} {σ : L2.St} {H1 : Hp} {D : Addr} {Qd : Hp → Prop} (Pv : Nat → Hp → Prop) (h0 : Pv 0 (upd H1 D (.dK []))) (hG : ∀ i H, i ≤ n → Pv i H → G H)
    (hs : ∀ i x H H', i < n → Pv i H → Y i H x H' → g x (wipe σ vs) H' fun σ2 H2 => wipe σ2 vs = wipe σ vs ∧ tt σ2 H2 fun b H3 =>
      if b = true then tk σ2 H3 fun y H4 => tv σ2 H4 fun z H5 => ∃ kvs k, y = kV k ∧ H5 D = some (.dK kvs) ∧ kvs.length < sizeLine ∧ Pv (i + 1) (upd H5 D (.dK (putK kvs k z))) else Pv (i + 1) H3) (hd : ∀ H, Pv n H → Qd H) :
    ∃ W : Nat → Nat → Hp → Prop, (∃ m, W 0 m (upd H1 D (.dK []))) ∧ ∀ i m H, W i m H →
      (J.stop i H ∧ Qd H) ∨ (J.go i H ∧ ∃ Nx : Hp → Prop, (∀ H', Nx H' → ∃ m', m' < m ∧ W (i + 1) m' H') ∧ ∀ x H', J.yld i H x H' → g x (wipe σ vs) H' fun σ2 H2 => wipe σ2 vs = wipe σ vs ∧ tt σ2 H2 fun b H3 =>
        if b = true then tk σ2 H3 fun y H4 => tv σ2 H4 fun z H5 => ∃ kvs k, y = kV k ∧ H5 D = some (.dK kvs) ∧ kvs.length < sizeLine ∧ Nx (upd H5 D (.dK (putK kvs k z))) else Nx H3) := by
  refine ⟨fun i m H => m = n - i ∧ i ≤ n ∧ Pv i H, ⟨n, by simp, Nat.zero_le _, h0⟩, ?_⟩
  rintro i m H ⟨rfl, hi, p⟩
  have q := hG i H hi p
  by_cases hlt : i < n
  · refine .inr ⟨w.goes i H hlt q, Pv (i + 1), fun H' p' => ⟨n - (i + 1), by omega, rfl, hlt, p'⟩, fun x H' y => hs i x H H' hlt p (w.yields i H x H' hlt q y)⟩
  · have e : i = n := by omega
    subst e
    exact .inl ⟨w.stops H q, hd H p⟩
/-- an entry of the rule's table: place, stretch, box -/
abbrev Ent : Type := (Int × Int) × (Nat × Nat) × Str
def encP (p : Int × Int) : PyData := .tuple [.int p.1, .int p.2]
def encE (e : Ent) : PyData := .tuple [encP e.1, .tuple [.int (e.2.1.1 : Int), .int (e.2.1.2 : Int)], .str e.2.2]
def encR (p : Int × Str) : PyData := .tuple [.int p.1, .str p.2]
def inSt (s : Nat) (e : Ent) : Bool := decide (e.2.1.1 ≤ s) && decide (s ≤ e.2.1.2)
def takenD (F : List Ent) (s : Nat) : List (Str × PyData) := (F.filter (inSt s)).foldl (fun l e => aput l e.2.2 (.bool true)) []
def leaveOf (tab : List (Str × Nat × Nat)) (x : Str) : Int := (((aget tab x).getD (0, 0)).2 : Nat)
def rowsL (tab : List (Str × Nat × Nat)) (evs : List (Bool × Str)) (F : List Ent) (s : Nat) : List (Int × Str) := ((sortT (hereL (evs.take s))).filter fun x => !(aget (takenD F s) x).isSome).map fun x => (-(leaveOf tab x), x)
def llL (tab : List (Str × Nat × Nat)) (evs : List (Bool × Str)) (F : List Ent) (s : Nat) : List Str := ((rowsL tab evs F s).mergeSort (PySem.W.dataLe false encR)).map (·.2)
def layerP (u : Nat) (h : List Nat) : List (Int × Int) := (h.zipIdx.filter fun p => decide (u < p.1)).map fun p => ((p.2 : Int), (p.1 : Int) - 1 - (u : Int))
theorem layerP_eq (u : Nat) (h : List Nat) : layerL u h = (layerP u h).map encP := by
  unfold layerL layerP
  rw [List.map_map]
  rfl
def freshOf (h : List Nat) (evs : List (Bool × Str)) (s : Nat) : List (Int × Int) := if (cnts h.sum evs).getD s 0 < (cnts h.sum evs).getD (s - 1) 0 then layerP ((cnts h.sum evs).getD s 0) h else []
def ruleStep (h : List Nat) (evs : List (Bool × Str)) (F : List Ent) (s : Nat) : List Ent := F ++ ((freshOf h evs s).zip (llL (tabOf evs) evs F s)).map fun pb => (pb.1, (s, lastFrom (cnts h.sum evs) s), pb.2)
def ruleL (h : List Nat) (evs : List (Bool × Str)) : List Ent := (List.range ((cnts h.sum evs).length - 1)).foldl (fun F i => ruleStep h evs F (i + 1)) []
def ruleD (h : List Nat) (evs : List (Bool × Str)) : PyData := .tuple (((ruleL h evs).mergeSort (PySem.W.dataLe false encE)).map encE)
theorem takenD_take {F : List Ent} {s i : Nat} {e : Ent} (h : F[i]? = some e) : takenD (F.take (i + 1)) s = if inSt s e = true then aput (takenD (F.take i) s) e.2.2 (.bool true) else takenD (F.take i) s := by
  unfold takenD
  rw [List.take_add_one, h, List.filter_append, List.foldl_append]
  show List.foldl _ _ (List.filter _ [e]) = _
  rw [List.filter_cons]
  split <;> rfl
theorem takenD_len (F : List Ent) (s : Nat) : (takenD F s).length ≤ F.length := by
  have key : ∀ (F : List Ent) (l : List (Str × PyData)), (F.foldl (fun l e => aput l e.2.2 (.bool true)) l).length ≤ l.length + F.length := by
    intro F
    induction F with
    | nil => exact fun l => Nat.le_refl _
    | cons e F ih =>
      intro l
      have h1 := ih (aput l e.2.2 (.bool true))
      have h2 := aput_len l e.2.2 (PyData.bool true)
      refine Nat.le_trans h1 ?_
      rw [List.length_cons]
      omega
  have := key (F.filter (inSt s)) []
  rw [List.length_nil, Nat.zero_add] at this
  exact Nat.le_trans this (List.length_filter_le _ _)
theorem tab_keys (T : Nat) : ∀ (es : List (Bool × Str)) (k : Nat) (tab : List (Str × Nat × Nat)) (x : Str), x ∈ tab.map (·.1) ∨ x ∈ es.map (·.2) → x ∈ (tabGo T k tab es).map (·.1)
  | [], _, _, x, h => by
    rcases h with h | h
    · exact h
    · cases h
  | e :: es, k, tab, x, h => by
    refine tab_keys T es (k + 1) (tabStep T k tab e) x ?_
    have ek : ∃ v, tabStep T k tab e = aput tab e.2 v := by
      unfold tabStep
      split <;> exact ⟨_, rfl⟩
    obtain ⟨v, ev⟩ := ek
    rw [ev, aput_keys]
    rcases h with h | h
    · left
      split
      · exact h
      · exact List.mem_append_left _ h
    · rcases List.mem_cons.mp h with h | h
      · left
        subst h
        split
        · assumption
        · exact List.mem_append_right _ (List.mem_singleton.mpr rfl)
      · exact .inr h
theorem alR (a b : Int × Str) : PySem.W.alike (encR a) (encR b) = true := by simp only [encR, PySem.W.alike, PySem.W.alikeAll, Bool.and_self]
theorem alE (a b : Ent) : PySem.W.alike (encE a) (encE b) = true := by simp only [encE, encP, PySem.W.alike, PySem.W.alikeAll, Bool.and_self]
theorem dpR (a : Int × Str) : (encR a).depth ≤ 40 := by
  simp only [encR, PyData.depth, PyData.depthAll]
  decide
theorem dpE (a : Ent) : (encE a).depth ≤ 40 := by
  simp only [encE, encP, PyData.depth, PyData.depthAll]
  decide
section
variable {K : PySem.W.Frag} {H H' : Hp}
theorem ent_inv {v : V} {e : Ent} (h : Dt K H v (encE e)) : ∃ t p q, v = .ref t ∧ SqT K H t [.ref p, .ref q, .str e.2.2] ∧ SqT K H q [.int (e.2.1.1 : Int), .int (e.2.1.2 : Int)] := by
  obtain ⟨t, xs, rfl, s, q0⟩ := Dt.tup_inv h
  obtain ⟨v1, r1, rfl, d1, q1⟩ := DtAll.cons_inv q0
  obtain ⟨v2, r2, rfl, d2, q2⟩ := DtAll.cons_inv q1
  obtain ⟨v3, r3, rfl, d3, q3⟩ := DtAll.cons_inv q2
  cases DtAll.nil_inv q3
  cases Dt.str_inv d3
  obtain ⟨p, rfl, _⟩ := pair_inv d1
  obtain ⟨q, rfl, sq⟩ := pair_inv d2
  exact ⟨t, p, q, rfl, s, sq⟩
theorem rw_inv {v : V} {e : Int × Str} (h : Dt K H v (encR e)) : ∃ t, v = .ref t ∧ SqT K H t [.int e.1, .str e.2] := by
  obtain ⟨t, xs, rfl, s, q0⟩ := Dt.tup_inv h
  obtain ⟨v1, r1, rfl, d1, q1⟩ := DtAll.cons_inv q0
  obtain ⟨v2, r2, rfl, d2, q2⟩ := DtAll.cons_inv q1
  cases DtAll.nil_inv q2
  cases Dt.int_inv d1
  cases Dt.str_inv d2
  exact ⟨t, rfl, s⟩
end
section
variable {P : Program} {w : World} {K : PySem.W.Frag} {mg : Str → Option Value} {base : Heap} {Z : Za}
def sp_latest_leavers (K : PySem.W.Frag) (Z : Za) : Sp := fun vs H Q _ => ∃ (t d f : Addr) (evs : List (Bool × Str)) (tab : List (Str × Nat × Nat)) (xs : List V) (F : List Ent) (s : Nat), vs = [.ref t, .ref d, .ref f, .int (s : Int)] ∧
  TimAt K H t evs ∧ DK K H d (tabD tab) ∧ H f = some (.lst xs) ∧ DtAll K H xs (F.map encE) ∧ s ≤ evs.length ∧ evs.length ≤ 100 ∧ F.length ≤ 900 ∧ (∀ x ∈ evs.map (·.2), x ∈ tab.map (·.1)) ∧
  ∀ H' p, Same H H' → H' p = some (.lst ((llL tab evs F s).map V.str)) → Q (.ref p) H'
theorem c_latest_leavers {f : Addr} {fd : FuncData} (F : Fun K "latest_leavers" "latest_leavers" s_latest_leavers f fd) (g : mg "latest_leavers" = some (.ref f)) (T : Bl mg) (c_state_boxes : Cal P w K mg base 5 "state_boxes" ["timetable", "state"] (sp_state_boxes K Z))  : Cal P w K mg base 6 "latest_leavers" ["timetable", "table", "found", "state"] (sp_latest_leavers K Z) := by
  refine ⟨f, fd, g, F.kp, F.binds (ps := ["timetable", "table", "found", "state"]) fun _ _ _ _ _ _ us hl => match us, hl with | [_, _, _, _], _ => rfl, F.ok sc_latest_leavers (fun vs H Q E h => ?_) (fun cdv A outer s H vs Q E hr h => ?_)⟩
  · obtain ⟨t, d, f, evs, tab, xs, F, s, rfl, _⟩ := h
    rfl
  · obtain ⟨t, d, f, evs, tab, xs, F, s, rfl, ht, hd, hf, hF, hs, hl, hFl, hk, k⟩ := h
    have hu := hu_of hr
    have hxl := DtAll.length hF
    rw [List.length_map] at hxl
    refine ⟨_, (pss_cons (ps_set (i := 4) sc_latest_leavers.nd rfl (.inr rfl) (pe_dc (g := (gTup K 3 (gCons (gName 6) (gCons (gName 7) (gCons (gName 8) gNil))))) (own := [("place", 6), ("stretch", 7), ("box", 8)]) rfl sc_latest_leavers.nd (pi_list (pv 2)) (blkOk_by (own := [("place", 6), ("stretch", 7), ("box", 8)]) (N := n_latest_leavers) (sc := defScope s_latest_leavers) (by decide +kernel)) (fun _ _ _ _ _ => (pg_tup rfl (pgs_cons (pg_name (i := 6) sc_latest_leavers.nd rfl (.inl rfl) (.inr rfl)) (pgs_cons (pg_name (i := 7) sc_latest_leavers.nd rfl (.inl rfl) (.inr rfl)) (pgs_cons (pg_name (i := 8) sc_latest_leavers.nd rfl (.inl rfl) (.inr rfl)) pgs_nil))))) (fun _ _ _ _ _ => (pts_one (pt_chain op_le op_le (pe_ix (ixK_tup (K := K) rfl) (pv 7) pe_int (fun _ _ => rfl)) (pv 3) (pe_ix (ixK_tup (K := K) rfl) (pv 7) pe_int (fun _ _ => rfl))))) (fun _ _ _ _ _ => (pv 8)) (fun _ _ _ _ _ => pe_bl)))
      (pss_cons (ps_setLc (i := 5) (g := (gName 8)) (own := [("box", 8)]) rfl sc_latest_leavers.nd rfl rfl (sw_true rfl rfl rfl (by decide +kernel)) (pi_tup (pe_cal c_state_boxes (hr.mono (by decide)) (by rfl) (pa_cons (pv 0) (pa_cons (pv 3) pa_nil)))) (blkOk_by (own := [("box", 8)]) (N := n_latest_leavers) (sc := defScope s_latest_leavers) (by decide +kernel)) (fun _ _ _ _ _ => (pg_name (i := 8) sc_latest_leavers.nd rfl (.inl rfl) (.inr rfl))) (fun _ _ _ _ _ => (pts_one (pt_cmp (pc_dnotin hu (pv 8) (pv 4))))) (fun _ _ _ _ _ => (pe_tup (pa_cons (pe_un un_neg (pe_ix (ixK_tup (K := K) rfl) (pe_dget hu (pv 1) (pv 8) (fun _ _ => rfl)) pe_int (fun _ _ => rfl))) (pa_cons (pv 8) pa_nil)))))
      (pss_one (ps_ret (pe_lc (g := (gTup K 2 (gCons (gName 9) (gCons (gName 8) gNil)))) (own := [("leave", 9), ("box", 8)]) rfl sc_latest_leavers.nd (pi_list (pe_callB (cr_sortedDt hr.units) (by rfl) T.b_sorted (by decide +kernel) (pa_cons (pv 5) pa_nil))) (blkOk_by (own := [("leave", 9), ("box", 8)]) (N := n_latest_leavers) (sc := defScope s_latest_leavers) (by decide +kernel)) (fun _ _ _ _ _ => (pg_tup rfl (pgs_cons (pg_name (i := 9) sc_latest_leavers.nd rfl (.inl rfl) (.inr rfl)) (pgs_cons (pg_name (i := 8) sc_latest_leavers.nd rfl (.inl rfl) (.inr rfl)) pgs_nil)))) (fun _ _ _ _ _ => pts_nil) (fun _ _ _ _ _ => (pv 8))))))), ?_⟩
    -- taken
    refine ⟨_, rfl, f, rfl, ⟨_, .inl (.inl hf)⟩, fun D nD => ?_⟩
    have s1 := same_new (o := .dK []) nD
    refine dc_it walk_list (fun i H2 => Same H H2 ∧ DK K H2 D (takenD (F.take i) s)) ⟨s1, .nil upd_same⟩ (fun i H2 _ z => .inl (.inl (z.1 _ _ hf))) ?_ ?_
    · rintro i x H2 H3 hi ⟨s2, D2⟩ ⟨rfl, hx⟩
      obtain ⟨b, hb, dt⟩ := DtAll.get hF hx
      rw [List.getElem?_map] at hb
      obtain ⟨e, he, rfl⟩ := Option.map_eq_some_iff.mp hb
      obtain ⟨et, ep, eq, rfl, se, sq⟩ := ent_inv dt
      have se3 := tex s2 _ _ se
      have sq3 := tex s2 _ _ sq
      have tt := takenD_take (s := s) he
      have no : inSt s e = false → Same H H3 ∧ DK K H3 D (takenD (F.take (i + 1)) s) := fun z => by
        rw [tt, if_neg (by rw [z]; exact Bool.false_ne_true)]
        exact ⟨s2, D2⟩
      refine ⟨et, _, rfl, se3, rfl, _, _, rfl, _, _, rfl, _, _, rfl, rfl, rfl, ?_⟩
      refine ⟨_, rfl, eq, _, 0, _, rfl, rfl, sq3, atI_nat (j := 0) rfl, _, rfl, _, _, rfl, rfl, _, rfl, ite2 (fun z1 => ?_) fun z1 => ?_⟩
      · refine ⟨_, rfl, eq, _, 1, _, rfl, rfl, sq3, atI_nat (j := 1) rfl, _, _, rfl, rfl, _, rfl, ite2 (fun z2 => ?_) fun z2 => ?_⟩
        · have a1 : (e.2.1.1 : Int) ≤ (s : Int) := of_decide_eq_true z1
          have a2 : (s : Int) ≤ (e.2.1.2 : Int) := of_decide_eq_true z2
          have hin : inSt s e = true := Bool.and_eq_true_iff.mpr ⟨decide_eq_true (by omega), decide_eq_true (by omega)⟩
          obtain ⟨l', d1, d2, d3⟩ := D2
          have tl := takenD_len (F.take i) s
          rw [List.length_take] at tl
          have ll : l'.length = (takenD (F.take i) s).length := by
            have := congrArg List.length d2
            rwa [List.length_map, List.length_map] at this
          have m : TupEx K H3 (upd H3 D (.dK (putK (tk l') (Sum.inr e.2.2) (.bl true)))) := tupEx_at d1 (fun _ z => nomatch z) fun _ _ z => nomatch z
          refine ⟨_, rfl, tk l', Sum.inr e.2.2, rfl, d1, small1000 (by rw [tk_len]; omega), fun b o ob => ?_, ?_⟩
          · rw [upd_ne (ne_of_none ob nD)]
            exact s2 _ _ ob
          · rw [tt, if_pos hin]
            refine ⟨aput l' e.2.2 (.bl true), by rw [upd_same, putK_tk], by rw [aput_keys, aput_keys, d2], ?_⟩
            exact DtAll.mono m _ _ (dk_put d2 d3 (.bl true))
        · refine no (Bool.and_eq_false_iff.mpr (.inr (decide_eq_false fun q => z2 (decide_eq_true (by omega)))))
      · exact ⟨_, rfl, iteF (no (Bool.and_eq_false_iff.mpr (.inl (decide_eq_false fun q => z1 (decide_eq_true (by omega))))))⟩
    · rintro H2 ⟨s2, D2⟩
      rw [hxl, List.take_length] at D2
      -- rows
      refine ⟨_, rfl, _, rfl, t, evs, s, rfl, ht.mono (tex s2), hs, hl, fun H3 q s3 hq => ⟨q, rfl, ⟨_, hq⟩, fun R nR => ?_⟩⟩
      have D3 := D2.same s3
      have T3 := (hd.same s2).same s3
      refine lc_it walk_tup (fun i H4 => Same H3 H4 ∧ ∃ acc, H4 R = some (.lst acc) ∧ DtAll K H4 acc (((((sortT (hereL (evs.take s))).take i).filter fun x => !(aget (takenD F s) x).isSome).map fun x => (-(leaveOf tab x), x)).map encR) ∧ acc.length ≤ i) ⟨same_new nR, [], upd_same, .nil, Nat.le_refl _⟩ (fun i H4 _ z => tex z.1 _ _ hq) ?_ ?_
      · rintro i x H4 H5 hi ⟨s4, acc, r4, a4, al⟩ ⟨rfl, hx⟩
        rw [List.getElem?_map] at hx
        obtain ⟨y, hy, rfl⟩ := Option.map_eq_some_iff.mp hx
        obtain ⟨r, g1, g2, g3⟩ := (D3.same s4).dget y
        have fmt := fm_take (fun x => !(aget (takenD F s) x).isSome) (fun x => (-(leaveOf tab x), x)) hy
        have hlen : (sortT (hereL (evs.take s))).length ≤ 100 := by
          rw [(sortT_perm _).length_eq]
          refine Nat.le_trans (hereL_len _) ?_
          rw [List.length_take]
          omega
        rw [List.length_map] at hi
        refine ⟨rfl, _, rfl, _, rfl, D, r, rfl, g1, _, rfl, ?_⟩
        rw [g2]
        cases ez : (aget (takenD F s) y).isSome with
        | true =>
          refine iteF ⟨s4, acc, r4, ?_, by omega⟩
          rw [fmt, if_neg (by rw [ez]; exact Bool.false_ne_true), List.append_nil]
          exact a4
        | false =>
          have ym : y ∈ tab.map (·.1) := hk y (by
            have h1 : y ∈ hereL (evs.take s) := (sortT_perm _).mem_iff.mp (List.mem_of_getElem? hy)
            obtain ⟨p, hp, rfl⟩ := List.mem_map.mp (hereL_mem h1)
            exact List.mem_map.mpr ⟨p, List.mem_of_mem_take hp, rfl⟩)
          obtain ⟨⟨cc, l⟩, hcl⟩ := Option.isSome_iff_exists.mp (aget_isSome.mpr ym)
          obtain ⟨rt, g4, _, g5⟩ := (T3.same s4).dget y
          obtain ⟨v, rfl, dv⟩ := g5 (.tuple [.int (cc : Int), .int (l : Int)]) (by rw [tabD_get, hcl]; rfl)
          obtain ⟨ta, rfl, sa⟩ := pair_inv dv
          refine iteT ⟨_, rfl, _, rfl, d, _, rfl, g4, ta, _, 1, _, rfl, rfl, sa, atI_nat (j := 1) rfl, _, rfl, _, rfl, two, fun z nz => ?_⟩
          have s5 := same_new (o := .tup [.int (-(l : Int)), .str y]) nz
          have r5 := s5 _ _ r4
          have m5 := tupEx_lst (K := K) (o := .lst (acc ++ [.ref z])) r5
          refine ⟨acc, r5, small1000 (by omega), fun b o ob => ?_, acc ++ [.ref z], upd_same, ?_, by rw [List.length_append, List.length_singleton]; omega⟩
          · rw [upd_ne (ne_of_none ob nR)]
            exact s5 _ _ (s4 _ _ ob)
          · rw [fmt, if_pos (by rw [ez]; rfl), List.map_append]
            refine DtAll.app (DtAll.mono ((tex s5).trans m5) _ _ a4) (.cons (Dt.mono m5 _ _ ?_) .nil)
            show Dt K _ _ (.tuple [.int (-(leaveOf tab y)), .str y])
            rw [show leaveOf tab y = (l : Int) by unfold leaveOf; rw [hcl]; rfl]
            exact ref_new upd_same (.cons (.int _) (.cons (.str _) .nil))
      · rintro H4 ⟨s4, acc, r4, a4, al⟩
        rw [List.length_map, List.take_length] at a4
        have al2 := DtAll.length a4
        have rlen : (rowsL tab evs F s).length ≤ 100 := by
          unfold rowsL
          rw [List.length_map]
          refine Nat.le_trans (List.length_filter_le _ _) ?_
          rw [(sortT_perm _).length_eq]
          refine Nat.le_trans (hereL_len _) ?_
          rw [List.length_take]
          omega
        refine ⟨_, rfl, R, acc, _, rowsL tab evs F s, encR, rfl, .inl (.inl r4), a4, PySem.W.AllAlike.of alR, PySem.W.Sortable.tuples (fun b => ⟨_, _, rfl⟩), by omega, fun b _ => dpR b, fun ys p5 hys n5 => ⟨p5, rfl, ⟨_, .inl (.inl upd_same)⟩, fun E nE => ?_⟩⟩
        have s5 := same_new (o := .lst ys) n5
        have ysl := DtAll.length hys
        rw [List.length_map, List.length_mergeSort] at ysl
        refine lc_it walk_list (fun i H6 => Same (upd H4 p5 (.lst ys)) H6 ∧ H6 E = some (.lst (((((rowsL tab evs F s).mergeSort (PySem.W.dataLe false encR)).take i).map (·.2)).map V.str))) ⟨same_new nE, upd_same⟩ (fun i H6 _ z => .inl (.inl (z.1 _ _ upd_same))) ?_ ?_
        · rintro i x H6 H7 hi ⟨s6, e6⟩ ⟨rfl, hx⟩
          obtain ⟨b, hb, dt⟩ := DtAll.get hys hx
          rw [List.getElem?_map] at hb
          obtain ⟨e, he, rfl⟩ := Option.map_eq_some_iff.mp hb
          obtain ⟨et, rfl, se⟩ := rw_inv dt
          refine ⟨et, _, rfl, tex (s5.trans s6) _ _ se, rfl, _, _, rfl, _, _, rfl, rfl, rfl, ?_⟩
          refine ⟨_, rfl, _, e6, ?_, fun b o ob => ?_, ?_⟩
          · rw [List.length_map, List.length_map, List.length_take, List.length_mergeSort]
            exact small1000 (by omega)
          · rw [upd_ne (ne_of_none ob nE)]
            exact s6 _ _ ob
          · rw [upd_same, List.take_add_one, he, List.map_append, List.map_append]
            rfl
        · rintro H6 ⟨s6, e6⟩
          refine k H6 E ((s2.trans s3).trans (s4.trans (s5.trans s6))) ?_
          rw [e6, ysl, ← List.length_mergeSort (le := PySem.W.dataLe false encR), List.take_length]
          rfl
end
end K19
end

section
set_option Elab.async false
set_option linter.all false
set_option maxRecDepth 100000
set_option maxHeartbeats 8000000
/-! W9: the rule's table, the court. -/
namespace K19
open PySem L2 K19M
section
variable {K : PySem.W.Frag} {H H' : Hp} {Z : Za}
theorem ruleStep_len (h : List Nat) (evs : List (Bool × Str)) (F : List Ent) (s : Nat) : (ruleStep h evs F s).length ≤ F.length + (freshOf h evs s).length := by
  unfold ruleStep
  rw [List.length_append, List.length_map, List.length_zip]
  omega
theorem layerP_len (u : Nat) (h : List Nat) : (layerP u h).length ≤ h.length := by
  have := layerL_len u h
  rw [layerP_eq, List.length_map] at this
  exact this
theorem fresh_len (h : List Nat) (evs : List (Bool × Str)) (s : Nat) : (freshOf h evs s).length ≤ h.length := by
  unfold freshOf
  split
  · exact layerP_len _ _
  · exact Nat.zero_le _
def ruleTo (h : List Nat) (evs : List (Bool × Str)) (n : Nat) : List Ent := (List.range n).foldl (fun F i => ruleStep h evs F (i + 1)) []
theorem ruleTo_succ (h : List Nat) (evs : List (Bool × Str)) (n : Nat) : ruleTo h evs (n + 1) = ruleStep h evs (ruleTo h evs n) (n + 1) := by
  unfold ruleTo
  rw [List.range_succ, List.foldl_append]
  rfl
theorem ruleTo_len {h : List Nat} (evs : List (Bool × Str)) (hl : h.length ≤ 4) : ∀ n, (ruleTo h evs n).length ≤ 4 * n
  | 0 => Nat.le_refl _
  | n + 1 => by
    have h1 := ruleStep_len h evs (ruleTo h evs n) (n + 1)
    have h2 := fresh_len h evs (n + 1)
    have h3 := ruleTo_len evs hl n
    rw [ruleTo_succ]
    omega
theorem menu_4 : ∀ h ∈ menu, h.length ≤ 4 := by decide
def DealtAt (K : PySem.W.Frag) (Z : Za) (H : Hp) (x : Addr) (d : PyData) : Prop := ∃ dx v, H x = some (.ins Z.D dx [("table", v)]) ∧ Dt K H v d
def CourtAt (K : PySem.W.Frag) (Z : Za) (H : Hp) (x : Addr) (h : List Nat) (evs : List (Bool × Str)) : Prop := (shortsL h evs = [] ∧ DealtAt K Z H x (ruleD h evs)) ∨ ∃ e r, shortsL h evs = e :: r ∧ ShortAt K Z H x e
theorem CourtAt.same {x : Addr} {h : List Nat} {evs : List (Bool × Str)} (c : CourtAt K Z H x h evs) (s : Same H H') : CourtAt K Z H' x h evs := by
  rcases c with ⟨a, dx, v, h1, h2⟩ | ⟨e, r, a, b⟩
  · exact .inl ⟨a, dx, v, s _ _ h1, Dt.mono (tex s) _ _ h2⟩
  · exact .inr ⟨e, r, a, b.same s⟩
end
section
variable {P : Program} {w : World} {K : PySem.W.Frag} {mg : Str → Option Value} {base : Heap} {Z : Za}
def sp_rule_table (K : PySem.W.Frag) (Z : Za) : Sp := fun vs H Q _ => ∃ (y t : Addr) (h : List Nat) (evs : List (Bool × Str)), vs = [.ref y, .ref t] ∧ Giv K Z H y t h evs ∧
  ∀ H' p, Same H H' → Dt K H' (.ref p) (ruleD h evs) → Q (.ref p) H'
theorem c_rule_table {f : Addr} {fd : FuncData} (F : Fun K "rule_table" "rule_table" s_rule_table f fd) (g : mg "rule_table" = some (.ref f)) (T : Bl mg) (c_free_counts : Cal P w K mg base 6 "free_counts" ["yard", "timetable"] (sp_free_counts K Z)) (c_presence_table : Cal P w K mg base 1 "presence_table" ["timetable"] (sp_presence_table K Z)) (c_layer : Cal P w K mg base 1 "layer" ["yard", "cover"] (sp_layer K Z)) (c_stretch_from : Cal P w K mg base 1 "stretch_from" ["counts", "state"] (sp_stretch_from K Z)) (c_latest_leavers : Cal P w K mg base 6 "latest_leavers" ["timetable", "table", "found", "state"] (sp_latest_leavers K Z))  : Cal P w K mg base 7 "rule_table" ["yard", "timetable"] (sp_rule_table K Z) := by
  refine ⟨f, fd, g, F.kp, F.binds (ps := ["yard", "timetable"]) fun _ _ _ _ _ _ us hl => match us, hl with | [_, _], _ => rfl, F.ok sc_rule_table (fun vs H Q E h => ?_) (fun cdv A outer s H vs Q E hr h => ?_)⟩
  · obtain ⟨y, t, h, evs, rfl, _⟩ := h
    rfl
  · obtain ⟨y, t, h, evs, rfl, G, k⟩ := h
    refine ⟨_, (pss_cons (ps_set (i := 2) sc_rule_table.nd rfl (.inl rfl) (pe_cal c_free_counts (hr.mono (by decide)) (by rfl) (pa_cons (pv 0) (pa_cons (pv 1) pa_nil))))
      (pss_cons (ps_set (i := 3) sc_rule_table.nd rfl (.inl rfl) (pe_cal c_presence_table (hr.mono (by decide)) (by rfl) (pa_cons (pv 1) pa_nil)))
      (pss_cons (ps_set (i := 4) sc_rule_table.nd rfl (.inl rfl) (pe_lst pa_nil))
      (pss_cons (ps_for PassesOwn.never rfl (pi_range2 (by rfl) T.b_range (pa_cons pe_int (pa_cons (pe_callB call_len_seq (by rfl) T.b_len PySem.boot_len (pa_cons (pv 2) pa_nil)) pa_nil))) (pg_name (i := 5) sc_rule_table.nd rfl (.inl rfl))
        (pss_cons (ps_set (i := 6) sc_rule_table.nd rfl (.inl rfl) (pe_cut (pe_ifExp (pt_cmpR op_lt (pe_ix ix_tup (pv 2) (pv 5) (fun _ _ => rfl)) (pe_ix ix_tup (pv 2) (pe_op op_sub (pv 5) pe_int) (fun _ _ => rfl)) (nomark _)) (pe_cal c_layer (hr.mono (by decide)) (by rfl) (pa_cons (pv 0) (pa_cons (pe_ix ix_tup (pv 2) (pv 5) (fun _ _ => rfl)) pa_nil))) (pe_tup pa_nil))))
        (pss_one (ps_if (pt_cmpR op_gt (pe_callB call_len_seq (by rfl) T.b_len PySem.boot_len (pa_cons (pv 6) pa_nil)) pe_int (nomark _))
          (pss_cons (ps_set (i := 7) sc_rule_table.nd rfl (.inr rfl) (pe_cal c_stretch_from (hr.mono (by decide)) (by rfl) (pa_cons (pv 2) (pa_cons (pv 5) pa_nil))))
          (pss_cons (ps_set (i := 8) sc_rule_table.nd rfl (.inl rfl) (pe_cal c_latest_leavers (hr.mono (by decide)) (by rfl) (pa_cons (pv 1) (pa_cons (pv 3) (pa_cons (pv 4) (pa_cons (pv 5) pa_nil))))))
          (pss_one (ps_set (i := 4) sc_rule_table.nd rfl (.inl rfl) (pe_op op_cat (pv 4) (pe_lc (g := (gTup K 2 (gCons (gName 9) (gCons (gName 10) gNil)))) (own := [("place", 9), ("box", 10)]) rfl sc_rule_table.nd (pi_zipM (by rfl) T.b_zip (pa_cons (pv 6) (pa_cons (pv 8) pa_nil))) (blkOk_by (own := [("place", 9), ("box", 10)]) (N := n_rule_table) (sc := defScope s_rule_table) (by decide +kernel)) (fun _ _ _ _ _ => (pg_tup rfl (pgs_cons (pg_name (i := 9) sc_rule_table.nd rfl (.inl rfl) (.inr rfl)) (pgs_cons (pg_name (i := 10) sc_rule_table.nd rfl (.inl rfl) (.inr rfl)) pgs_nil)))) (fun _ _ _ _ _ => pts_nil) (fun _ _ _ _ _ => (pe_tup (pa_cons (pv 9) (pa_cons (pv 7) (pa_cons (pv 10) pa_nil)))))))))))
          pss_nil))))
      (pss_one (ps_ret (pe_callTy call_tuple_of (by rfl) T.b_tuple (by decide +kernel) (pa_cons (pe_callB (cr_sortedDt hr.units) (by rfl) T.b_sorted (by decide +kernel) (pa_cons (pv 4) pa_nil)) pa_nil)))))))), ?_⟩
    refine ⟨_, rfl, _, rfl, y, t, h, evs, rfl, G, fun H1 c s1 hc => ?_⟩
    refine ⟨_, rfl, t, h.sum, evs, rfl, (G.same s1).tm, G.tt, G.len, fun H2 d s2 nd hd => ?_⟩
    refine ⟨Nat.zero_le _, fun f nf => ?_⟩
    have s3 := same_new (o := .lst []) nf
    have hf0 : (upd H2 f (.lst [])) f = some (.lst []) := upd_same
    have G3 := ((G.same s1).same s2).same s3
    have sF : Same H (upd H2 f (.lst [])) := (s1.trans s2).trans s3
    have hc3 := tex s3 _ _ (tex s2 _ _ hc)
    have hd3 := hd.same s3
    generalize upd H2 f (.lst []) = HF at hf0 G3 sF hc3 hd3
    have hcl : (cnts h.sum evs).length = evs.length + 1 := cnts_len evs h.sum
    have hvl : (hV (cnts h.sum evs)).length = evs.length + 1 := by rw [hV_len, hcl]
    have gl := G.len
    have h4 := menu_4 h G.hm
    refine ⟨_, rfl, c, _, rfl, .inr hc3, 1, _, rfl, ⟨by decide, by decide, by omega, by omega⟩, ?_⟩
    have hn : (((hV (cnts h.sum evs)).length : Int) - 1).toNat = evs.length := by omega
    rw [hn]
    refine for_it walk_range (fun i σ H5 => ∃ v5 v6 v7 v8 v9 v10 f xs, σ = [some (.ref y), some (.ref t), some (.ref c), some (.ref d), some (.ref f), v5, v6, v7, v8, v9, v10] ∧ Same HF H5 ∧ H5 f = some (.lst xs) ∧ DtAll K H5 xs ((ruleTo h evs i).map encE)) ⟨_, _, _, _, _, _, f, [], rfl, same_refl, hf0, .nil⟩ (fun i σ H5 _ _ => trivial) ?_ ?_
    · rintro i x σ H5 H6 hi ⟨v5, v6, v7, v8, v9, v10, f, xs, rfl, s5, f5, x5⟩ ⟨eH, hx⟩
      have eH := eH.symm
      subst eH
      have es : (1 : Int) + (i : Int) = ((i + 1 : Nat) : Int) := by omega
      obtain rfl : x = V.int ((i + 1 : Nat) : Int) := hx.trans (congrArg V.int es)
      have es' : ((i + 1 : Nat) : Int) - 1 = ((i : Nat) : Int) := by omega
      have rl := ruleTo_len evs h4 i
      have c1 : (cnts h.sum evs)[i + 1]? = some ((cnts h.sum evs).getD (i + 1) 0) := by
        rw [List.getD_eq_getElem?_getD, List.getElem?_eq_getElem (by omega)]
        rfl
      have c0 : (cnts h.sum evs)[i]? = some ((cnts h.sum evs).getD i 0) := by
        rw [List.getD_eq_getElem?_getD, List.getElem?_eq_getElem (by omega)]
        rfl
      have hc5 := tex s5 _ _ hc3
      have rs := ruleTo_succ h evs i
      have hb := s5 _ _ hf0
      have Y5 := G3.yd.same s5
      have T5 := G3.tm.mono (tex s5)
      have D5 := hd3.same s5
      have cu : freshOf h evs (i + 1) = if (cnts h.sum evs).getD (i + 1) 0 < (cnts h.sum evs).getD i 0 then layerP ((cnts h.sum evs).getD (i + 1) 0) h else [] := rfl
      have fl := fresh_len h evs (i + 1)
      refine ⟨fun v H7 => ∃ q, v = .ref q ∧ Same H5 H7 ∧ Dt K H7 (.ref q) (.tuple ((freshOf h evs (i + 1)).map encP)), ⟨_, rfl, _, rfl, c, _, ((i + 1 : Nat) : Int), _, rfl, rfl, hc5, atI_nat (hV_at c1), _, rfl, _, rfl, _, _, rfl, rfl, c, _, ((i + 1 : Nat) : Int) - 1, _, rfl, rfl, hc5, by rw [es']; exact atI_nat (hV_at c0), _, _, rfl, rfl, _, rfl, ite2 (fun z => ?_) fun z => ?_⟩, ?_⟩
      · have z' : (cnts h.sum evs).getD (i + 1) 0 < (cnts h.sum evs).getD i 0 := by
          have := of_decide_eq_true z
          omega
        refine ⟨_, rfl, _, rfl, _, rfl, c, _, ((i + 1 : Nat) : Int), _, rfl, rfl, hc5, atI_nat (hV_at c1), y, h, _, rfl, Y5, G.hl, fun H7 q s7 hq => ⟨q, rfl, s7, ?_⟩⟩
        rw [cu, if_pos z', ← layerP_eq]
        exact hq
      · have z' : ¬ (cnts h.sum evs).getD (i + 1) 0 < (cnts h.sum evs).getD i 0 := fun q => z (decide_eq_true (by omega))
        refine ⟨Nat.zero_le _, fun q nq => ⟨q, rfl, same_new nq, ?_⟩⟩
        rw [cu, if_neg z']
        exact ref_new upd_same .nil
      · rintro v H7 ⟨q, rfl, s7, hq⟩
        have er : ruleTo h evs (i + 1) = ruleTo h evs i ++ ((freshOf h evs (i + 1)).zip (llL (tabOf evs) evs (ruleTo h evs i) (i + 1))).map fun pb => (pb.1, (i + 1, lastFrom (cnts h.sum evs) (i + 1)), pb.2) := ruleTo_succ h evs i
        clear rs cu
        generalize freshOf h evs (i + 1) = ps at hq fl er
        obtain ⟨qa, qs, eq1, hqs, dqs⟩ := Dt.tup_inv hq
        cases eq1
        have ql := DtAll.length dqs
        rw [List.length_map] at ql
        refine ⟨_, rfl, q, qs, rfl, .inr hqs, _, _, rfl, rfl, _, rfl, ite2 (fun z => ?_) fun z => ?_⟩
        · refine ⟨_, rfl, _, rfl, c, cnts h.sum evs, i + 1, rfl, tex s7 _ _ hc5, by omega, fun H8 st s8 hst => ?_⟩
          have s58 := s7.trans s8
          refine ⟨_, rfl, _, rfl, _, rfl, _, rfl, t, d, f, evs, tabOf evs, xs, ruleTo h evs i, i + 1, rfl, T5.mono (tex s58), D5.same s58, s58 _ _ f5, DtAll.mono (tex s58) _ _ x5, by omega, gl, by omega, fun x hx => tab_keys _ _ _ _ _ (.inr hx), fun H9 lv s9 hlv => ?_⟩
          have s89 := tex (K := K) (s8.trans s9)
          have hq9 := s89 _ _ hqs
          refine ⟨_, rfl, _, rfl, _, rfl, q, lv, qs, _, rfl, hq9, .inl (.inl hlv), fun D nD => ?_⟩
          have llen : (llL (tabOf evs) evs (ruleTo h evs i) (i + 1)).length ≤ 100 := by
            unfold llL rowsL
            rw [List.length_map, List.length_mergeSort, List.length_map]
            refine Nat.le_trans (List.length_filter_le _ _) ?_
            rw [(sortT_perm _).length_eq]
            refine Nat.le_trans (hereL_len _) ?_
            rw [List.length_take]
            omega
          generalize llL (tabOf evs) evs (ruleTo h evs i) (i + 1) = L at er hlv llen
          refine lc_it (walk_zipM (xs := qs) (ys := L.map V.str) rfl) (fun j H4 => Same H9 H4 ∧ ∃ acc, H4 D = some (.lst acc) ∧ DtAll K H4 acc ((((ps.zip L).take j).map fun pb => ((pb.1, (i + 1, lastFrom (cnts h.sum evs) (i + 1)), pb.2) : Ent)).map encE) ∧ acc.length ≤ j) ⟨same_new nD, [], upd_same, .nil, Nat.le_refl _⟩ (fun j H4 _ z => ⟨tex z.1 _ _ hq9, .inl (.inl (z.1 _ _ hlv))⟩) ?_ ?_
          · rintro j x H4 H5' hj ⟨s4, acc, d4, a4, al⟩ ⟨p, x1, x2, rfl, np, rfl, e1, e2⟩
            rw [List.length_map] at hj
            obtain ⟨b, hb, dt⟩ := DtAll.get dqs e1
            rw [List.getElem?_map] at hb
            obtain ⟨pp, hpp, rfl⟩ := Option.map_eq_some_iff.mp hb
            have e2 : (L.map V.str)[j]? = some x2 := e2
            rw [List.getElem?_map] at e2
            obtain ⟨bx, hbx, rfl⟩ := Option.map_eq_some_iff.mp e2
            have hz : (ps.zip L)[j]? = some (pp, bx) := by
              rw [List.getElem?_zip_eq_some]
              exact ⟨hpp, hbx⟩
            have s5' := same_new (o := .tup [x1, .str bx]) np
            refine ⟨p, _, rfl, .inl (.inl upd_same), rfl, _, _, rfl, _, _, rfl, rfl, rfl, ?_⟩
            refine ⟨_, rfl, _, rfl, _, rfl, (by show 3 ≤ sizeLine; decide), fun r nr => ?_⟩
            have s6 := same_new (o := .tup [x1, .ref st, .str bx]) nr
            have sA := s5'.trans s6
            have dA := sA _ _ d4
            have m7 := tupEx_lst (K := K) (o := .lst (acc ++ [.ref r])) dA
            refine ⟨acc, dA, small1000 (by omega), fun b o ob => ?_, acc ++ [.ref r], upd_same, ?_, by rw [List.length_append, List.length_singleton]; omega⟩
            · rw [upd_ne (ne_of_none ob nD)]
              exact sA _ _ (s4 _ _ ob)
            · rw [List.take_add_one, hz, List.map_append, List.map_append]
              refine DtAll.app (DtAll.mono ((tex sA).trans m7) _ _ a4) (.cons (Dt.mono m7 _ _ ?_) .nil)
              have tB := tex (K := K) ((s8.trans s9).trans (s4.trans sA))
              have tC := tex (K := K) (s9.trans (s4.trans sA))
              exact ref_new upd_same (.cons (Dt.mono tB _ _ dt) (.cons (.tup (tC _ _ hst) (.cons (.int _) (.cons (.int _) .nil))) (.cons (.str _) .nil)))
          · rintro H4 ⟨s4, acc, d4, a4, al⟩
            have zl : min qs.length (L.map V.str).length = (ps.zip L).length := by
              rw [List.length_map, List.length_zip, ql]
            rw [zl, List.take_length] at a4
            have al2 := DtAll.length a4
            have xl := DtAll.length x5
            rw [List.length_map] at xl
            rw [List.length_map, List.length_map, List.length_zip] at al2
            have s54 := s58.trans (s9.trans s4)
            refine ⟨f, D, xs, acc, rfl, rfl, s54 _ _ f5, d4, small (by omega), fun r nr => ?_⟩
            have s6 := same_new (o := .lst (xs ++ acc)) nr
            refine ⟨_, _, _, _, _, _, r, xs ++ acc, rfl, s5.trans (s54.trans s6), upd_same, ?_⟩
            rw [er, List.map_append]
            exact DtAll.app (DtAll.mono (tex (s54.trans s6)) _ _ x5) (DtAll.mono (tex s6) _ _ a4)
        · have ep : ps = [] := by
            cases ps with
            | nil => rfl
            | cons a r =>
              refine (z (decide_eq_true ?_)).elim
              rw [ql, List.length_cons]
              omega
          subst ep
          refine ⟨_, _, _, _, _, _, f, xs, rfl, s5.trans s7, s7 _ _ f5, ?_⟩
          rw [er]
          show DtAll K H7 xs ((ruleTo h evs i ++ []).map encE)
          rw [List.append_nil]
          exact DtAll.mono (tex s7) _ _ x5
    · rintro σ H5 ⟨v5, v6, v7, v8, v9, v10, f, xs, rfl, s5, f5, x5⟩
      have rl := ruleTo_len evs h4 evs.length
      have el : ruleTo h evs evs.length = ruleL h evs := by
        unfold ruleL
        rw [hcl]
        rfl
      rw [el] at x5 rl
      refine ⟨_, rfl, f, xs, _, ruleL h evs, encE, rfl, .inl (.inl f5), x5, PySem.W.AllAlike.of alE, PySem.W.Sortable.tuples (fun b => ⟨_, _, rfl⟩), by omega, fun b _ => dpE b, fun ys p5 hys n5 => ?_⟩
      refine ⟨p5, ys, rfl, .inl ⟨.inl (.inl upd_same), fun r nr => ?_⟩⟩
      have s6 := same_new (o := .lst ys) n5
      have s7 := same_new (o := .tup ys) nr
      exact k _ r (sF.trans (s5.trans (s6.trans s7))) (ref_new upd_same (DtAll.mono ((tex s6).trans (tex s7)) _ _ hys))
def sp_court (K : PySem.W.Frag) (Z : Za) : Sp := fun vs H Q _ => ∃ (y t : Addr) (h : List Nat) (evs : List (Bool × Str)), vs = [.ref y, .ref t] ∧ Giv K Z H y t h evs ∧
  ∀ H' p, Same H H' → CourtAt K Z H' p h evs → Q (.ref p) H'
theorem c_court {f : Addr} {fd : FuncData} (F : Fun K "court" "court" s_court f fd) (g : mg "court" = some (.ref f)) (T : Bl mg) (c_shorts : Cal P w K mg base 7 "shorts" ["yard", "timetable"] (sp_shorts K Z)) (c_rule_table : Cal P w K mg base 7 "rule_table" ["yard", "timetable"] (sp_rule_table K Z)) (m_Dealt : MkC P w K mg base 1 "Dealt" Z.D ["self", "table"] (sp_Dealt_init K Z))  : Cal P w K mg base 8 "court" ["yard", "timetable"] (sp_court K Z) := by
  refine ⟨f, fd, g, F.kp, F.binds (ps := ["yard", "timetable"]) fun _ _ _ _ _ _ us hl => match us, hl with | [_, _], _ => rfl, F.ok sc_court (fun vs H Q E h => ?_) (fun cdv A outer s H vs Q E hr h => ?_)⟩
  · obtain ⟨y, t, h, evs, rfl, _⟩ := h
    rfl
  · obtain ⟨y, t, h, evs, rfl, G, k⟩ := h
    refine ⟨_, (pss_cons (ps_set (i := 2) sc_court.nd rfl (.inl rfl) (pe_cal c_shorts (hr.mono (by decide)) (by rfl) (pa_cons (pv 0) (pa_cons (pv 1) pa_nil))))
      (pss_one (ps_ret (pe_ifExp (pt_cmpR op_gt (pe_callB call_len_seq (by rfl) T.b_len PySem.boot_len (pa_cons (pv 2) pa_nil)) pe_int (nomark _)) (pe_ix ix_tup (pv 2) pe_int (fun _ _ => rfl)) (pe_mk m_Dealt (hr.mono (by decide)) (by rfl) (pa_cons (pe_cal c_rule_table (hr.mono (by decide)) (by rfl) (pa_cons (pv 0) (pa_cons (pv 1) pa_nil))) pa_nil)))))), ?_⟩
    refine ⟨_, rfl, _, rfl, y, t, h, evs, rfl, G, fun H1 p xs s1 hp S => ?_⟩
    refine ⟨_, rfl, p, _, rfl, .inr hp, _, _, rfl, rfl, _, rfl, ?_⟩
    have hlen := S.1
    cases e : shortsL h evs with
    | nil =>
      rw [e] at hlen
      refine ite2 (fun z => ?_) fun _ => ?_
      · have := of_decide_eq_true z
        rw [hlen] at this
        exact absurd this (by decide)
      · refine ⟨_, rfl, _, rfl, y, t, h, evs, rfl, G.same s1, fun H2 q s2 hq => fun x dx nx ndx nex => ?_⟩
        refine ⟨x, dx, _, rfl, upd_same, fun H3 b3 h3 => ⟨rfl, ?_⟩⟩
        have s3 : Same H2 H3 := fun b o ob => by
          have hbx : b ≠ x := ne_of_none ob nx
          refine b3 b o ?_ hbx
          rw [upd_ne hbx, upd_ne (ne_of_none ob ndx)]
          exact ob
        exact k H3 x (s1.trans (s2.trans s3)) (.inl ⟨e, dx, _, h3, Dt.mono (tex s3) _ _ hq⟩)
    | cons a r =>
      rw [e] at hlen
      obtain ⟨x, hx, sx⟩ := S.2 0 a (by rw [e]; rfl)
      refine ite2 (fun _ => ?_) fun z => ?_
      · exact ⟨_, rfl, p, xs, 0, _, rfl, rfl, hp, atI_nat (j := 0) hx, k H1 x s1 (.inr ⟨a, r, e, sx⟩)⟩
      · exact (z (decide_eq_true (by rw [hlen, List.length_cons]; omega))).elim
end
end K19
end

section
set_option Elab.async false
set_option linter.all false
set_option maxRecDepth 100000
set_option maxHeartbeats 8000000
/-! L1: the law's draws. -/
namespace K19
open PySem L2 K19M
/-- the deal: a list of numbers (its top is drawn from), a blend -/
structure DealAt (H : Hp) (d l : Addr) : Prop where
  ex : ∃ (ms : List Int) (b : Int), H d = some (.lst [.ref l, .int b]) ∧ H l = some (.lst (ms.map V.int)) ∧ (∀ m ∈ ms, 0 ≤ m) ∧ 0 ≤ b ∧ b < 2147483647 ∧ ms.length ≤ 63
  ne : d ≠ l
/-- all but two stand -/
def But2 (d l : Addr) (H H' : Hp) : Prop := ∀ b o, H b = some o → b ≠ d → b ≠ l → H' b = some o
section
variable {K : PySem.W.Frag} {H H' H2 : Hp} {d l : Addr}
theorem But2.refl : But2 d l H H := fun _ _ h _ _ => h
theorem But2.trans (a : But2 d l H H') (b : But2 d l H' H2) : But2 d l H H2 := fun x o h p q => b x o (a x o h p q) p q
theorem But2.updL {o : HO} (a : But2 d l H H') : But2 d l H (upd H' l o) := fun x u h p q => by
  rw [upd_ne q]
  exact a x u h p q
theorem But2.updD {o : HO} (a : But2 d l H H') : But2 d l H (upd H' d o) := fun x u h p q => by
  rw [upd_ne p]
  exact a x u h p q
theorem But2.same (a : But2 d l H H') (s : Same H' H2) : But2 d l H H2 := fun x o h p q => s _ _ (a x o h p q)
theorem same_but2 (s : Same H H') : But2 d l H H' := fun x o h _ _ => s x o h
theorem DealAt.ld (D : DealAt H d l) : ∃ xs, H d = some (.lst xs) := by
  obtain ⟨ms, b, h, _⟩ := D.ex
  exact ⟨_, h⟩
theorem DealAt.ll (D : DealAt H d l) : ∃ xs, H l = some (.lst xs) := by
  obtain ⟨ms, b, _, h, _⟩ := D.ex
  exact ⟨_, h⟩
theorem But2.tex (a : But2 d l H H') (D : DealAt H d l) : TupEx K H H' := fun q xs sq => by
  obtain ⟨x1, h1⟩ := D.ld
  obtain ⟨x2, h2⟩ := D.ll
  rcases sq with (sq | ⟨o', sq⟩) | sq
  · exact .inl (.inl (a _ _ sq (ne_of sq h1 fun z => nomatch z) (ne_of sq h2 fun z => nomatch z)))
  · exact .inl (.inr ⟨o', a _ _ sq (ne_of sq h1 fun z => nomatch z) (ne_of sq h2 fun z => nomatch z)⟩)
  · exact .inr sq
theorem DealAt.same (D : DealAt H d l) (s : Same H H') : DealAt H' d l := by
  obtain ⟨ms, b, h1, h2, r⟩ := D.ex
  exact ⟨⟨ms, b, s _ _ h1, s _ _ h2, r⟩, D.ne⟩
/-- an object that is no part of the deal -/
theorem DealAt.off {x : Addr} {o : HO} (D : DealAt H d l) (h : H x = some o) (ho : ∀ xs, o ≠ .lst xs) : x ≠ d ∧ x ≠ l := by
  obtain ⟨x1, h1⟩ := D.ld
  obtain ⟨x2, h2⟩ := D.ll
  exact ⟨ne_of h h1 fun z => ho _ z, ne_of h h2 fun z => ho _ z⟩
theorem eqv_nil (ms : List Int) : PyData.eqv (.list (ms.map PyData.int)) (.list []) = decide (ms = []) := by
  cases ms with
  | nil => rfl
  | cons a ms => rfl
theorem mod_nn {i j : Int} (h : 0 < j) : 0 ≤ i % j ∧ i % j < j := ⟨Int.emod_nonneg _ (by omega), Int.emod_lt_of_pos _ h⟩
end
section
variable {P : Program} {w : World} {K : PySem.W.Frag} {mg : Str → Option Value} {base : Heap} {Z : Za}
def sp_law_draw (K : PySem.W.Frag) (Z : Za) : Sp := fun vs H Q _ => ∃ (d l : Addr) (b : Int), vs = [.ref d, .int b] ∧ DealAt H d l ∧ 1 ≤ b ∧ b < 1000000 ∧
  ∀ H' r, DealAt H' d l → But2 d l H H' → 0 ≤ r → r < b → Q (.int r) H'
theorem c_law_draw {f : Addr} {fd : FuncData} (F : Fun K "_law_draw" "_law_draw" s_law_draw f fd) (g : mg "_law_draw" = some (.ref f)) (T : Bl mg)   : Cal P w K mg base 1 "_law_draw" ["_law_deal_here", "_law_bound"] (sp_law_draw K Z) := by
  refine ⟨f, fd, g, F.kp, F.binds (ps := ["_law_deal_here", "_law_bound"]) fun _ _ _ _ _ _ us hl => match us, hl with | [_, _], _ => rfl, F.ok sc_law_draw (fun vs H Q E h => ?_) (fun cdv A outer s H vs Q E hr h => ?_)⟩
  · obtain ⟨d, l, b, rfl, _⟩ := h
    rfl
  · obtain ⟨d, l, b, rfl, D, hb1, hb2, k⟩ := h
    refine ⟨_, (pss_cons (ps_while PassesOwn.never (PW.pt (pw_and (pt_cmpR (op_neD hr.units) (pe_ix ix_list (pv 0) pe_int (fun _ _ => rfl)) (pe_lst pa_nil) (nomark _)) (pw_and1 (pt_cmpR op_eq (pe_ix ix_list (pe_ix ix_list (pv 0) pe_int (fun _ _ => rfl)) (pe_un un_neg pe_int) (fun _ _ => rfl)) pe_int (nomark _)))))
        (pss_one (ps_expr (pe_bm0 PySem.F.plainAttrs_list PySem.F.slot_list_pop PySem.F.type_list_pop mt_pop (pe_ix ix_list (pv 0) pe_int (fun _ _ => rfl))))))
      (pss_cons (ps_if (pt_cmpR (op_neD hr.units) (pe_ix ix_list (pv 0) pe_int (fun _ _ => rfl)) (pe_lst pa_nil) (nomark _))
        (pss_cons (ps_set (i := 2) sc_law_draw.nd rfl (.inl rfl) (pe_bm0 PySem.F.plainAttrs_list PySem.F.slot_list_pop PySem.F.type_list_pop mt_pop (pe_ix ix_list (pv 0) pe_int (fun _ _ => rfl))))
        (pss_cons (ps_expr (pe_bm PySem.F.plainAttrs_list PySem.F.slot_list_append PySem.F.type_list_append mt_append (pe_ix ix_list (pv 0) pe_int (fun _ _ => rfl)) (pa_cons (pe_op op_fdivN (pv 2) (pv 1)) pa_nil)))
        (pss_one (ps_ret (pe_op op_mod (pe_callTy call_int1 (by rfl) T.b_int (by decide +kernel) (pa_cons (pv 2) pa_nil)) (pv 1))))))
        pss_nil)
      (pss_cons (ps_asg (pe_op op_mod (pe_callTy call_int1 (by rfl) T.b_int (by decide +kernel) (pa_cons (pe_op op_add (pe_op op_mul (pe_ix ix_list (pv 0) pe_int (fun _ _ => rfl)) pe_int) pe_int) pa_nil)) pe_int) (pg_sub (pv 0) pe_int set_list))
      (pss_one (ps_ret (pe_op op_mod (pe_callTy call_int1 (by rfl) T.b_int (by decide +kernel) (pa_cons (pe_op op_fdiv (pe_ix ix_list (pv 0) pe_int (fun _ _ => rfl)) pe_int) pa_nil)) (pv 1))))))), ?_⟩
    obtain ⟨ms0, bl, hd0, hl0, nn0, bl0, bl1, len0⟩ := D.ex
    have ne := D.ne
    refine ⟨fun m σ H' => ∃ ms v2, m = ms.length ∧ σ = [some (.ref d), some (.int b), v2] ∧ But2 d l H H' ∧ H' d = some (.lst [.ref l, .int bl]) ∧ H' l = some (.lst (ms.map V.int)) ∧ (∀ m ∈ ms, 0 ≤ m) ∧ ms.length ≤ 63, ⟨ms0.length, ms0, _, rfl, rfl, .refl, hd0, hl0, nn0, len0⟩, ?_⟩
    rintro m σ H1 ⟨ms, v2, rfl, rfl, b1, hd, hl, nn, len⟩
    have SD : SqL K H1 d [.ref l, .int bl] := .inl (.inl hd)
    have SLL : SqL K H1 l (ms.map V.int) := .inl (.inl hl)
    refine ⟨_, rfl, d, _, 0, _, rfl, rfl, SD, atI_nat (j := 0) rfl, Nat.zero_le _, fun e en => ?_⟩
    have se := same_new (o := .lst []) en
    refine ⟨.list (ms.map PyData.int), .list [], .lst (.inl (.inl (se _ _ hl))) (DtAll.dp _ _ (DtAll.of_ints _)), .lst (.inl (.inl upd_same)) .nil, PySem.W.shaped_ints _, PySem.W.shaped_ints [], _, rfl, ?_⟩
    rw [eqv_nil]
    have sD1 : SqL K (upd H1 e (.lst [])) d [.ref l, .int bl] := .inl (.inl (se _ _ hd))
    have sL1 : SqL K (upd H1 e (.lst [])) l (ms.map V.int) := .inl (.inl (se _ _ hl))
    have b2 := b1.same se
    have hd2 := se _ _ hd
    have hl2 := se _ _ hl
    generalize upd H1 e (.lst []) = H2 at b2 hd2 hl2 sD1 sL1
    -- the second part: no zero on the top
    cases hms : ms with
    | nil =>
      subst hms
      rw [decide_eq_true rfl]
      refine iteF ⟨_, rfl, d, _, 0, _, rfl, rfl, sD1, atI_nat (j := 0) rfl, Nat.zero_le _, fun e2 en2 => ?_⟩
      have se2 := same_new (o := .lst []) en2
      refine ⟨.list (([] : List Int).map PyData.int), .list [], .lst (.inl (.inl (se2 _ _ hl2))) (DtAll.dp _ _ (DtAll.of_ints [])), .lst (.inl (.inl upd_same)) .nil, PySem.W.shaped_ints _, PySem.W.shaped_ints [], _, rfl, iteF ?_⟩
      have hd3 := se2 _ _ hd2
      have hl3 := se2 _ _ hl2
      have b3 := b2.same se2
      generalize upd H2 e2 (.lst []) = H3 at hd3 hl3 b3
      have SD3 : SqL K H3 d [.ref l, .int bl] := .inl (.inl hd3)
      refine ⟨_, rfl, d, _, 1, _, rfl, rfl, SD3, atI_nat (j := 1) rfl, _, _, rfl, rfl, .inl ⟨by omega, by omega⟩, _, _, rfl, rfl, .inl ⟨_, rfl, _, _, rfl, rfl, (by show (0 : Int) < 2147483647; decide), ?_⟩⟩
      have mb := mod_nn (i := bl * 69621 + 51) (j := 2147483647) (by decide)
      refine ⟨_, rfl, d, _, 1, 1, rfl, rfl, hd3, rfl, ?_⟩
      have SD4 : SqL K (upd H3 d (.lst [.ref l, .int ((bl * 69621 + 51) % 2147483647)])) d [.ref l, .int ((bl * 69621 + 51) % 2147483647)] := .inl (.inl upd_same)
      refine ⟨_, rfl, d, _, 1, _, rfl, rfl, SD4, atI_nat (j := 1) rfl, _, _, rfl, rfl, ⟨by decide, by decide⟩, .inl ⟨_, rfl, _, rfl, _, _, rfl, rfl, (by omega), ?_⟩⟩
      have mr := mod_nn (i := (bl * 69621 + 51) % 2147483647 / 64) (j := b) (by omega)
      refine k _ _ ⟨⟨[], _, upd_same, by rw [upd_ne ne.symm]; exact hl3, (fun m hm => nomatch hm), mb.1, mb.2, by decide⟩, ne⟩ b3.updD mr.1 mr.2
    | cons a r =>
      rw [← hms, decide_eq_false (by rw [hms]; exact List.cons_ne_nil _ _)]
      have lpos : 0 < ms.length := by rw [hms]; exact Nat.succ_pos _
      obtain ⟨n, hn⟩ : ∃ n, ms.length = n + 1 := ⟨ms.length - 1, by omega⟩
      have hz : ms[n]? = some ms[n] := List.getElem?_eq_getElem (by omega)
      have hzV : (ms.map V.int)[n]? = some (.int ms[n]) := by
        rw [List.getElem?_map, hz]
        rfl
      have hzn : (ms.map V.int)[(ms.map V.int).length - 1]? = some (.int ms[n]) := by
        have : (ms.map V.int).length - 1 = n := by
          rw [List.length_map]
          omega
        rw [this]
        exact hzV
      have hn1 : atI (ms.map V.int) (-1) = some (.int ms[n]) := at_neg1 (by rw [List.length_map]; exact hn) hzV
      have nz := nn ms[n] (List.getElem_mem _)
      have drop : (ms.map V.int).dropLast = ms.dropLast.map V.int := (List.map_dropLast ..).symm
      have nnd : ∀ m ∈ ms.dropLast, 0 ≤ m := fun m hm => nn m ((List.dropLast_sublist ms).subset hm)
      have ld : ms.dropLast.length = n := by
        rw [List.length_dropLast, hn]
        rfl
      refine iteT ⟨_, rfl, d, _, 0, _, rfl, rfl, sD1, atI_nat (j := 0) rfl, 1, rfl, l, _, -1, _, rfl, rfl, sL1, hn1, rfl, _, rfl, ite2 (fun z => ?_) fun z => ?_⟩
      · refine ⟨fun σ' H' => ∃ ms' v2, ms'.length < ms.length ∧ σ' = [some (.ref d), some (.int b), v2] ∧ But2 d l H H' ∧ H' d = some (.lst [.ref l, .int bl]) ∧ H' l = some (.lst (ms'.map V.int)) ∧ (∀ m ∈ ms', 0 ≤ m) ∧ ms'.length ≤ 63, fun σ' H' ⟨ms', w2, q1, q2, q3⟩ => ⟨_, q1, ms', w2, rfl, q2, q3⟩, ?_⟩
        refine ⟨_, rfl, d, _, 0, _, rfl, rfl, sD1, atI_nat (j := 0) rfl, .inl ⟨rfl, _, sL1⟩, l, _, _, rfl, rfl, hl2, hzn, ms.dropLast, _, by omega, rfl, b2.updL, ?_, ?_, nnd, by omega⟩
        · rw [upd_ne ne]
          exact hd2
        · rw [upd_same, drop]
      · refine ⟨_, rfl, d, _, 0, _, rfl, rfl, sD1, atI_nat (j := 0) rfl, Nat.zero_le _, fun e2 en2 => ?_⟩
        have se2 := same_new (o := .lst []) en2
        refine ⟨.list (ms.map PyData.int), .list [], .lst (.inl (.inl (se2 _ _ hl2))) (DtAll.dp _ _ (DtAll.of_ints _)), .lst (.inl (.inl upd_same)) .nil, PySem.W.shaped_ints _, PySem.W.shaped_ints [], _, rfl, ?_⟩
        rw [eqv_nil, decide_eq_false (by rw [hms]; exact List.cons_ne_nil _ _)]
        have hd3 := se2 _ _ hd2
        have hl3 := se2 _ _ hl2
        have b3 := b2.same se2
        generalize upd H2 e2 (.lst []) = H3 at hd3 hl3 b3
        have SD3 : SqL K H3 d [.ref l, .int bl] := .inl (.inl hd3)
        have SL3 : SqL K H3 l (ms.map V.int) := .inl (.inl hl3)
        refine iteT ⟨_, rfl, d, _, 0, _, rfl, rfl, SD3, atI_nat (j := 0) rfl, .inl ⟨rfl, _, SL3⟩, l, _, _, rfl, rfl, hl3, hzn, ?_⟩
        have hd4 : (upd H3 l (.lst (ms.map V.int).dropLast)) d = some (.lst [.ref l, .int bl]) := by
          rw [upd_ne ne]
          exact hd3
        have SD4 : SqL K (upd H3 l (.lst (ms.map V.int).dropLast)) d [.ref l, .int bl] := .inl (.inl hd4)
        refine ⟨_, rfl, d, _, 0, _, rfl, rfl, SD4, atI_nat (j := 0) rfl, .inl ⟨rfl, _, .inl (.inl upd_same)⟩, _, rfl, _, rfl, _, _, rfl, rfl, ⟨by omega, by omega⟩, l, _, _, rfl, rfl, upd_same, by rw [drop, List.length_map]; exact small1000 (by omega), ?_⟩
        have mr := mod_nn (i := ms[n]) (j := b) (by omega)
        refine ⟨_, rfl, .inl ⟨_, rfl, _, rfl, _, _, rfl, rfl, (by omega), ?_⟩⟩
        refine k _ _ ⟨⟨ms.dropLast ++ [ms[n].fdiv b], bl, ?_, ?_, ?_, bl0, bl1, ?_⟩, ne⟩ (But2.updL b3.updL) mr.1 mr.2
        · rw [upd_ne ne]
          exact hd4
        · rw [upd_same, drop, List.map_append]
          rfl
        · intro m hm
          rcases List.mem_append.mp hm with q | q
          · exact nnd m q
          · rw [List.mem_singleton.mp q]
            exact Int.fdiv_nonneg nz (by omega)
        · rw [List.length_append, List.length_singleton]
          omega
def sp_law_pick (K : PySem.W.Frag) (Z : Za) : Sp := fun vs H Q _ => ∃ (d l : Addr) (x : V), vs = [.ref d, x] ∧ DealAt H d l ∧
  ((∃ z : Str, x = .str z ∧ 1 ≤ z.length ∧ z.length ≤ 1000 ∧ ∀ H' c, DealAt H' d l → But2 d l H H' → c ∈ z.cps.toList → Q (.str ⟨#[c]⟩) H') ∨
   ∃ a xs, x = .ref a ∧ H a = some (.lst xs) ∧ a ≠ d ∧ a ≠ l ∧ 1 ≤ xs.length ∧ xs.length ≤ 1000 ∧ ∀ H' v, DealAt H' d l → But2 d l H H' → v ∈ xs → Q v H')
theorem nat_of {r : Int} (h : 0 ≤ r) : ∃ n : Nat, r = (n : Int) := ⟨r.toNat, by omega⟩
theorem c_law_pick {f : Addr} {fd : FuncData} (F : Fun K "_law_pick" "_law_pick" s_law_pick f fd) (g : mg "_law_pick" = some (.ref f)) (T : Bl mg) (c_law_draw : Cal P w K mg base 1 "_law_draw" ["_law_deal_here", "_law_bound"] (sp_law_draw K Z))  : Cal P w K mg base 2 "_law_pick" ["_law_deal_here", "_law_some"] (sp_law_pick K Z) := by
  refine ⟨f, fd, g, F.kp, F.binds (ps := ["_law_deal_here", "_law_some"]) fun _ _ _ _ _ _ us hl => match us, hl with | [_, _], _ => rfl, F.ok sc_law_pick (fun vs H Q E h => ?_) (fun cdv A outer s H vs Q E hr h => ?_)⟩
  · obtain ⟨d, l, x, rfl, _⟩ := h
    rfl
  · obtain ⟨d, l, x, rfl, D, k⟩ := h
    refine ⟨_, (pss_one (ps_ret (pe_ix ix_seq (pv 1) (pe_cal c_law_draw (hr.mono (by decide)) (by rfl) (pa_cons (pv 0) (pa_cons (pe_callB call_len (by rfl) T.b_len PySem.boot_len (pa_cons (pv 1) pa_nil)) pa_nil))) (fun _ _ => rfl)))), ?_⟩
    rcases k with ⟨z, rfl, z1, z2, k⟩ | ⟨a, xs, rfl, ha, n1, n2, l1, l2, k⟩
    · refine ⟨_, rfl, _, rfl, _, rfl, .str z, z.length, rfl, ⟨small z2, rfl⟩, d, l, _, rfl, D, by omega, by omega, fun H1 r D1 b1 r0 r1 => ?_⟩
      obtain ⟨n, rfl⟩ := nat_of r0
      have hn : n < z.cps.toList.length := by
        rw [Array.length_toList]
        exact Int.ofNat_lt.mp r1
      refine .inr (.inr ⟨z, (n : Int), z.cps.toList[n], rfl, rfl, small z2, atI_nat (List.getElem?_eq_getElem hn), k H1 _ D1 b1 (List.getElem_mem hn)⟩)
    · refine ⟨_, rfl, _, rfl, _, rfl, .ref a, xs.length, rfl, .inl ⟨xs, .inl (.inl ha), rfl⟩, d, l, _, rfl, D, by omega, by omega, fun H1 r D1 b1 r0 r1 => ?_⟩
      obtain ⟨n, rfl⟩ := nat_of r0
      have hn : n < xs.length := by omega
      exact .inl ⟨a, xs, (n : Int), xs[n], rfl, rfl, .inl (.inl (b1 _ _ ha n1 n2)), atI_nat (List.getElem?_eq_getElem hn), k H1 _ D1 b1 (List.getElem_mem hn)⟩
end
end K19
end

section
set_option Elab.async false
set_option linter.all false
set_option maxRecDepth 100000
set_option maxHeartbeats 8000000
/-! N2: the law's deal; its names. -/
namespace K19
open PySem L2 K19M
section
variable {K : PySem.W.Frag} {H H' : Hp}
theorem cut_ints (ns : List Int) (lo hi : Option Int) : ∃ ns' : List Int, cutV (ns.map V.int) lo hi = ns'.map V.int ∧ ns'.length ≤ ns.length := by
  unfold cutV
  refine ⟨(ns.drop (HT.sIx (ns.map V.int).length 0 lo)).take (HT.sIx (ns.map V.int).length (ns.map V.int).length hi - HT.sIx (ns.map V.int).length 0 lo), ?_, ?_⟩
  · rw [List.map_take, List.map_drop]
  · rw [List.length_take, List.length_drop]
    omega
theorem cut_take (xs : List V) (k : Nat) : cutV xs none (some (k : Int)) = xs.take k := by
  unfold cutV
  rw [show HT.sIx xs.length 0 none = 0 from rfl, HT.sIx_nat, Nat.sub_zero, List.drop_zero]
  by_cases h : k ≤ xs.length
  · rw [Nat.min_eq_left h]
  · rw [Nat.min_eq_right (by omega), List.take_of_length_le (Nat.le_refl _), List.take_of_length_le (by omega)]
def sg (c : Nat) : V := .str ⟨#[c]⟩
def letters : Str := "abcdefghijklmnopqrstuvwxyz"
theorem letters_len : letters.length = 26 := by decide +kernel
theorem letters_nd : letters.cps.toList.Nodup := by decide +kernel
theorem join_app (cs : List Nat) : (Txt.join ("" : Str) (cs.map fun c => (⟨#[c]⟩ : Str))).cps.toList = cs := by
  rw [TL.join_eq]
  induction cs with
  | nil => rfl
  | cons c cs ih =>
    cases cs with
    | nil => rfl
    | cons c2 cs =>
      show ((⟨#[c]⟩ : Str) ++ ("" : Str) ++ Str.join ("" : Str) (((c2 :: cs).map fun c => (⟨#[c]⟩ : Str)))).cps.toList = _
      show ((#[c] ++ ("" : Str).cps) ++ (Str.join ("" : Str) (((c2 :: cs).map fun c => (⟨#[c]⟩ : Str)))).cps).toList = _
      rw [Array.toList_append, Array.toList_append, ih]
      rfl
theorem ixN_nat {n j : Nat} (h : j < n) : ixN n (j : Int) = some j := by
  unfold ixN
  rw [if_pos (by omega), if_pos (by omega)]
  rfl
/-- the i-th name: its sign at the place -/
def NmAt (pl fi j : Nat) (x : Str) : Prop := NameOk x ∧ ∃ c, x.cps.toList[pl]? = some c ∧ letters.cps.toList[(fi + 5 * j) % 26]? = some c
theorem nm_unlike {pl fi i j : Nat} {x : Str} (hi : i < 12) (hj : j < 12) (a : NmAt pl fi i x) (b : NmAt pl fi j x) : i = j := by
  obtain ⟨_, c, a1, a2⟩ := a
  obtain ⟨_, c', b1, b2⟩ := b
  rw [a1] at b1
  cases b1
  obtain ⟨h1, e1⟩ := List.getElem?_eq_some_iff.mp a2
  obtain ⟨h2, e2⟩ := List.getElem?_eq_some_iff.mp b2
  have := (List.getElem_inj letters_nd).mp (e1.trans e2.symm)
  omega
end
section
variable {P : Program} {w : World} {K : PySem.W.Frag} {mg : Str → Option Value} {base : Heap} {Z : Za}
def sp_law_deal (K : PySem.W.Frag) (Z : Za) : Sp := fun vs H Q _ => ∃ (a : Addr) (ns : List Int), vs = [.ref a, .int 0] ∧ SqL K H a (ns.map V.int) ∧ ns.length ≤ 63 ∧
  ∀ H' d l, Same H H' → DealAt H' d l → H d = none → H l = none → Q (.ref d) H'
theorem c_law_deal {f : Addr} {fd : FuncData} (F : Fun K "_law_deal" "_law_deal" s_law_deal f fd) (g : mg "_law_deal" = some (.ref f)) (T : Bl mg)   : Cal P w K mg base 1 "_law_deal" ["_law_script", "_law_base"] (sp_law_deal K Z) := by
  refine ⟨f, fd, g, F.kp, F.binds (ps := ["_law_script", "_law_base"]) fun _ _ _ _ _ _ us hl => match us, hl with | [_, _], _ => rfl, F.ok sc_law_deal (fun vs H Q E h => ?_) (fun cdv A outer s H vs Q E hr h => ?_)⟩
  · obtain ⟨a, ns, rfl, _⟩ := h
    rfl
  · obtain ⟨a, ns, rfl, ha, hl, k⟩ := h
    refine ⟨_, (pss_cons (ps_setLc (i := 3) (g := (gName 2)) (own := [("_law_cell", 2)]) rfl sc_law_deal.nd rfl rfl (sw_true rfl rfl rfl (by decide +kernel)) (pi_list (pe_slice sl_list (pv 0) (po_some (pv 1)) (po_some (pe_op op_add (pv 1) pe_int)))) (blkOk_by (own := [("_law_cell", 2)]) (N := n_law_deal) (sc := defScope s_law_deal) (by decide +kernel)) (fun _ _ _ _ _ => (pg_name (i := 2) sc_law_deal.nd rfl (.inl rfl) (.inr rfl))) (fun _ _ _ _ _ => pts_nil) (fun _ _ _ _ _ => (pe_callB call_abs (by rfl) T.b_abs (by decide +kernel) (pa_cons (pv 2) pa_nil))))
      (pss_cons (ps_set (i := 4) sc_law_deal.nd rfl (.inl rfl) (pe_op op_add pe_int (pe_op op_mul pe_int (pv 1))))
      (pss_cons (ps_for PassesOwn.never rfl (pi_list (pv 3)) (pg_name (i := 2) sc_law_deal.nd rfl (.inl rfl))
        (pss_one (ps_set (i := 4) sc_law_deal.nd rfl (.inl rfl) (pe_op op_mod (pe_callTy call_int1 (by rfl) T.b_int (by decide +kernel) (pa_cons (pe_op op_add (pe_op op_add (pe_op op_mul (pv 4) pe_int) (pe_op op_mod (pe_callTy call_int1 (by rfl) T.b_int (by decide +kernel) (pa_cons (pv 2) pa_nil)) pe_int)) pe_int) pa_nil)) pe_int))))
      (pss_one (ps_ret (pe_lst (pa_cons (pe_revL (pe_lc (g := (gName 2)) (own := [("_law_cell", 2)]) rfl sc_law_deal.nd (pi_list (pv 3)) (blkOk_by (own := [("_law_cell", 2)]) (N := n_law_deal) (sc := defScope s_law_deal) (by decide +kernel)) (fun _ _ _ _ _ => (pg_name (i := 2) sc_law_deal.nd rfl (.inl rfl) (.inr rfl))) (fun _ _ _ _ _ => (pts_one (pt_cmpR op_ge (pv 2) (pe_op op_pow pe_int pe_int) (nomark _)))) (fun _ _ _ _ _ => (pv 2)))) (pa_cons (pv 4) pa_nil)))))))), ?_⟩
    refine ⟨_, rfl, _, rfl, 0, rfl, _, rfl, _, _, rfl, rfl, _, rfl, a, _, rfl, ha, fun p np => ⟨p, rfl, ⟨_, .inl (.inl upd_same)⟩, fun C nC => ?_⟩⟩
    obtain ⟨ns', e1, e2⟩ := cut_ints ns (some 0) (some (0 + 50))
    rw [e1] at nC ⊢
    have s1 := same_new (o := .lst (ns'.map V.int)) np
    have hp : (upd H p (.lst (ns'.map V.int))) p = some (.lst (ns'.map V.int)) := upd_same
    generalize upd H p (.lst (ns'.map V.int)) = H1 at nC s1 hp ⊢
    refine lc_it walk_list (fun i H2 => Same H1 H2 ∧ ∃ ms : List Int, H2 C = some (.lst (ms.map V.int)) ∧ ms.length = i ∧ ∀ m ∈ ms, 0 ≤ m) ⟨same_new nC, [], upd_same, rfl, fun m hm => nomatch hm⟩ (fun i H2 _ z => .inl (.inl (z.1 _ _ hp))) ?_ ?_
    · rintro i x H2 H3 hi ⟨s2, ms, c2, ml, nn⟩ ⟨rfl, hx⟩
      rw [List.getElem?_map] at hx
      obtain ⟨n, hn, rfl⟩ := Option.map_eq_some_iff.mp hx
      rw [List.length_map] at hi
      refine ⟨rfl, _, rfl, n, rfl, _, c2, by rw [List.length_map]; exact small1000 (by omega), fun b o ob => ?_, ms ++ [if n < 0 then -n else n], ?_, by rw [List.length_append, List.length_singleton, ml], fun m hm => ?_⟩
      · rw [upd_ne (ne_of_none ob nC)]
        exact s2 _ _ ob
      · rw [upd_same, List.map_append]
        rfl
      · rcases List.mem_append.mp hm with q | q
        · exact nn m q
        · rw [List.mem_singleton.mp q]
          split <;> omega
    · rintro H2 ⟨s2, ms, c2, ml, nn⟩
      rw [List.length_map] at ml
      refine ⟨_, rfl, _, _, rfl, rfl, .inl ⟨by omega, by omega⟩, _, _, rfl, rfl, ?_⟩
      refine ⟨_, rfl, C, rfl, ⟨_, .inl (.inl c2)⟩, for_it walk_list (fun i σ H4 => H4 = H2 ∧ ∃ v2 b, σ = [some (.ref a), some (.int 0), v2, some (.ref C), some (.int b)] ∧ 0 ≤ b ∧ b < 2147483647) ⟨rfl, _, _, rfl, by decide, by decide⟩ (fun i σ H4 _ z => by rw [z.1]; exact .inl (.inl c2)) ?_ ?_⟩
      · rintro i x σ H4 H5 hi ⟨rfl, v2, b, rfl, b0, b1⟩ ⟨rfl, hx⟩
        rw [List.getElem?_map] at hx
        obtain ⟨n, hn, rfl⟩ := Option.map_eq_some_iff.mp hx
        refine ⟨_, rfl, _, _, rfl, rfl, .inl ⟨by omega, by omega⟩, _, rfl, .inl ⟨_, rfl, _, _, rfl, rfl, (by show (0 : Int) < 2147483549; decide), _, _, rfl, rfl, _, _, rfl, rfl, .inl ⟨_, rfl, _, _, rfl, rfl, (by show (0 : Int) < 2147483647; decide), rfl, _, _, rfl, ?_⟩⟩⟩
        exact mod_nn (by decide)
      · rintro σ H4 ⟨rfl, v2, b, rfl, b0, b1⟩
        refine ⟨_, rfl, C, rfl, ⟨_, .inl (.inl c2)⟩, fun D nD => ?_⟩
        refine lc_it walk_list (fun i H5 => Same H4 H5 ∧ ∃ us : List Int, H5 D = some (.lst (us.map V.int)) ∧ us.length ≤ i ∧ ∀ m ∈ us, 0 ≤ m) ⟨same_new nD, [], upd_same, Nat.le_refl _, fun m hm => nomatch hm⟩ (fun i H5 _ z => .inl (.inl (z.1 _ _ c2))) ?_ ?_
        · rintro i x H5 H6 hi ⟨s5, us, d5, ul, un⟩ ⟨rfl, hx⟩
          rw [List.getElem?_map] at hx
          obtain ⟨n, hn, rfl⟩ := Option.map_eq_some_iff.mp hx
          rw [List.length_map] at hi
          refine ⟨rfl, _, rfl, _, _, rfl, rfl, ⟨by decide, by decide, by decide⟩, _, _, rfl, rfl, _, rfl, ite2 (fun z => ?_) fun z => ?_⟩
          · refine ⟨_, rfl, _, d5, by rw [List.length_map]; exact small1000 (by omega), fun b o ob => ?_, us ++ [n], ?_, by rw [List.length_append, List.length_singleton]; omega, fun m hm => ?_⟩
            · rw [upd_ne (ne_of_none ob nD)]
              exact s5 _ _ ob
            · rw [upd_same, List.map_append]
              rfl
            · rcases List.mem_append.mp hm with q | q
              · exact un m q
              · rw [List.mem_singleton.mp q]
                exact nn n (List.mem_of_getElem? hn)
          · exact ⟨s5, us, d5, by omega, un⟩
        · rintro H5 ⟨s5, us, d5, ul, un⟩
          rw [List.length_map] at ul
          refine ⟨D, _, rfl, .inl (.inl d5), fun l nl => ⟨_, rfl, two, fun d nd => ?_⟩⟩
          have s6 := same_new (o := .lst (us.map V.int).reverse) nl
          have s7 := same_new (o := .lst [.ref l, .int b]) nd
          have sA := s1.trans (s2.trans (s5.trans (s6.trans s7)))
          have nlH : H l = none := (s1.trans (s2.trans s5)).free nl
          have ndl : d ≠ l := fun z => by
            rw [z, upd_same] at nd
            cases nd
          refine k _ d l sA ⟨⟨us.reverse, b, upd_same, ?_, fun m hm => un m (List.mem_reverse.mp hm), b0, b1, by rw [List.length_reverse]; omega⟩, ndl⟩ ((s1.trans (s2.trans (s5.trans s6))).free nd) nlH
          rw [upd_ne ndl.symm, upd_same, List.map_reverse]
end
end K19
end

section
set_option Elab.async false
set_option linter.all false
set_option maxRecDepth 100000
set_option maxHeartbeats 8000000
/-! N3: the law's names. -/
namespace K19
open PySem L2 K19M
section
variable {K : PySem.W.Frag} {H0 H H' H1 H2 : Hp}
/-- what stands in a turn of the names' loop -/
structure NK (d l W f : Addr) (ws : List Nat) (xs : List Str) (H0 H' : Hp) : Prop where
  kb : But2 d l H0 H'
  kd : DealAt H' d l
  kw : H' W = some (.lst (ws.map sg))
  kf : H' f = some (.lst (xs.map V.str))
  kn : W ≠ d ∧ W ≠ l ∧ f ≠ d ∧ f ≠ l ∧ f ≠ W
theorem NK.same {d l W f : Addr} {ws : List Nat} {xs : List Str} (k : NK d l W f ws xs H0 H1) (s : Same H1 H2) : NK d l W f ws xs H0 H2 := ⟨k.kb.same s, k.kd.same s, s _ _ k.kw, s _ _ k.kf, k.kn⟩
theorem NK.fresh {d l W f p : Addr} {ws : List Nat} {xs : List Str} (k : NK d l W f ws xs H0 H1) (np : H1 p = none) : H0 p = none ∧ p ≠ d ∧ p ≠ l ∧ p ≠ W ∧ p ≠ f := by
  obtain ⟨x1, h1⟩ := k.kd.ld
  obtain ⟨x2, h2⟩ := k.kd.ll
  have a1 : p ≠ d := (ne_of_none h1 np).symm
  have a2 : p ≠ l := (ne_of_none h2 np).symm
  refine ⟨?_, a1, a2, (ne_of_none k.kw np).symm, (ne_of_none k.kf np).symm⟩
  cases e : H0 p with
  | none => rfl
  | some o =>
    have := k.kb _ _ e a1 a2
    rw [np] at this
    cases this
theorem NK.set {d l W f p : Addr} {ws : List Nat} {xs : List Str} {o : HO} (k : NK d l W f ws xs H0 H1) (np : H1 p = none) (k2 : NK d l W f ws xs H0 H2) : NK d l W f ws xs H0 (upd H2 p o) := by
  obtain ⟨a0, a1, a2, a3, a4⟩ := k.fresh np
  refine ⟨fun x u h q1 q2 => ?_, ?_, ?_, ?_, k.kn⟩
  · rw [upd_ne (ne_of_none h a0)]
    exact k2.kb x u h q1 q2
  · obtain ⟨ms, b, h1, h2, r⟩ := k2.kd.ex
    exact ⟨⟨ms, b, by rw [upd_ne a1.symm]; exact h1, by rw [upd_ne a2.symm]; exact h2, r⟩, k2.kd.ne⟩
  · rw [upd_ne a3.symm]
    exact k2.kw
  · rw [upd_ne a4.symm]
    exact k2.kf
theorem NK.draw {d l W f : Addr} {ws : List Nat} {xs : List Str} (k : NK d l W f ws xs H0 H1) (D : DealAt H2 d l) (b : But2 d l H1 H2) : NK d l W f ws xs H0 H2 :=
  ⟨k.kb.trans b, D, b _ _ k.kw k.kn.1 k.kn.2.1, b _ _ k.kf k.kn.2.2.1 k.kn.2.2.2.1, k.kn⟩
theorem ixN_int {n : Nat} {j : Int} (h0 : 0 ≤ j) (h1 : j < n) : ixN n j = some j.toNat := by
  unfold ixN
  rw [if_pos h0, if_pos h1]
theorem lettersAt {r : Int} (h0 : 0 ≤ r) (h1 : r < 26) : ∃ c, atI letters.cps.toList r = some c ∧ c ∈ letters.cps.toList := by
  obtain ⟨n, rfl⟩ := nat_of h0
  have hn : n < letters.cps.toList.length := by
    rw [show letters.cps.toList.length = 26 from letters_len]
    omega
  exact ⟨_, atI_nat (List.getElem?_eq_getElem hn), List.getElem_mem hn⟩
theorem sg_sum (cs : List Nat) : ((cs.map fun c => (⟨#[c]⟩ : Str)).map (·.length)).sum = cs.length := by
  induction cs with
  | nil => rfl
  | cons c cs ih =>
    rw [List.map_cons, List.map_cons, List.sum_cons, ih, List.length_cons]
    exact Nat.add_comm 1 _
theorem sg_map (cs : List Nat) : cs.map sg = (cs.map fun c => (⟨#[c]⟩ : Str)).map V.str := by
  rw [List.map_map]
  rfl
theorem nm_nodup {pl fi : Nat} {xs : List Str} (hl : xs.length = 12) (h : ∀ j x, xs[j]? = some x → NmAt pl fi j x) : xs.Nodup := by
  refine List.pairwise_iff_getElem.mpr fun i j hi hj hij e => ?_
  have h1 := h i _ (List.getElem?_eq_getElem hi)
  have h2 := h j _ (List.getElem?_eq_getElem hj)
  rw [e] at h1
  have := nm_unlike (by omega) (by omega) h1 h2
  omega
end
section
variable {P : Program} {w : World} {K : PySem.W.Frag} {mg : Str → Option Value} {base : Heap} {Z : Za}
def sp_law_names (K : PySem.W.Frag) (Z : Za) : Sp := fun vs H Q _ => ∃ (d l : Addr), vs = [.ref d, .int 12] ∧ DealAt H d l ∧
  ∀ (H' : Hp) (p : Addr) (xs : List Str), DealAt H' d l → But2 d l H H' → H p = none → H' p = some (.lst (xs.map V.str)) → xs.length = 12 → xs.Nodup → (∀ x ∈ xs, NameOk x) → Q (.ref p) H'
theorem c_law_names {f : Addr} {fd : FuncData} (F : Fun K "_law_names" "_law_names" s_law_names f fd) (g : mg "_law_names" = some (.ref f)) (T : Bl mg) (c_law_draw : Cal P w K mg base 1 "_law_draw" ["_law_deal_here", "_law_bound"] (sp_law_draw K Z)) (c_law_pick : Cal P w K mg base 2 "_law_pick" ["_law_deal_here", "_law_some"] (sp_law_pick K Z))  : Cal P w K mg base 3 "_law_names" ["_law_deal_here", "_law_many"] (sp_law_names K Z) := by
  refine ⟨f, fd, g, F.kp, F.binds (ps := ["_law_deal_here", "_law_many"]) fun _ _ _ _ _ _ us hl => match us, hl with | [_, _], _ => rfl, F.ok sc_law_names (fun vs H Q E h => ?_) (fun cdv A outer s H vs Q E hr h => ?_)⟩
  · obtain ⟨d, l, rfl, _⟩ := h
    rfl
  · obtain ⟨d, l, rfl, D, k⟩ := h
    refine ⟨_, (pss_cons (ps_set (i := 2) sc_law_names.nd rfl (.inr rfl) pe_str)
      (pss_cons (ps_set (i := 3) sc_law_names.nd rfl (.inr rfl) (pe_lc (g := (gName 15)) (own := [("_law_turn_here", 15)]) rfl sc_law_names.nd (pi_range1 (by rfl) T.b_range (pa_cons pe_int pa_nil)) (blkOk_by (own := [("_law_turn_here", 15)]) (N := n_law_names) (sc := defScope s_law_names) (by decide +kernel)) (fun _ _ _ _ _ => (pg_name (i := 15) sc_law_names.nd rfl (.inl rfl) (.inr rfl))) (fun _ _ _ _ _ => pts_nil) (fun _ _ _ _ _ => (pe_cal c_law_pick (hr.mono (by decide)) (by rfl) (pa_cons (pv 0) (pa_cons (pv 2) pa_nil))))))
      (pss_cons (ps_if (PW.pt (pw_and (pt_cmpR op_le (pv 1) pe_int (nomark _)) (pw_and1 (pt_cmpR op_eq (pe_cal c_law_draw (hr.mono (by decide)) (by rfl) (pa_cons (pv 0) (pa_cons pe_int pa_nil))) pe_int (nomark _))))) (pss_one ps_never) pss_nil)
      (pss_cons (ps_par (i := 5) (j := 6) (by rfl) sc_law_names.nd rfl rfl (by decide) rfl rfl (pa_cons (pe_ifExp (pt_cmpR op_le (pv 1) pe_int (nomark _)) (pe_op op_add pe_int (pe_cal c_law_draw (hr.mono (by decide)) (by rfl) (pa_cons (pv 0) (pa_cons pe_int pa_nil)))) (pe_op op_add pe_int (pe_cal c_law_draw (hr.mono (by decide)) (by rfl) (pa_cons (pv 0) (pa_cons pe_int pa_nil))))) (pa_cons (pe_cal c_law_draw (hr.mono (by decide)) (by rfl) (pa_cons (pv 0) (pa_cons pe_int pa_nil))) pa_nil)) (by rfl))
      (pss_cons (ps_par3 (i := 7) (j := 8) (l := 9) (by rfl) sc_law_names.nd rfl rfl rfl (by decide) (by decide) (by decide) rfl rfl rfl (pa_cons (pe_cal c_law_draw (hr.mono (by decide)) (by rfl) (pa_cons (pv 0) (pa_cons (pv 5) pa_nil))) (pa_cons (pe_cal c_law_draw (hr.mono (by decide)) (by rfl) (pa_cons (pv 0) (pa_cons pe_int pa_nil))) (pa_cons (pe_cal c_law_draw (hr.mono (by decide)) (by rfl) (pa_cons (pv 0) (pa_cons pe_int pa_nil))) pa_nil))) (by rfl))
      (pss_cons (ps_set (i := 10) sc_law_names.nd rfl (.inl rfl) (pe_ifExp (pt_cmpR op_le (pv 1) pe_int (nomark _)) (pe_cal c_law_draw (hr.mono (by decide)) (by rfl) (pa_cons (pv 0) (pa_cons (pv 5) pa_nil))) (pe_cal c_law_draw (hr.mono (by decide)) (by rfl) (pa_cons (pv 0) (pa_cons (pe_op op_sub (pv 5) pe_int) pa_nil)))))
      (pss_cons (ps_par (i := 11) (j := 12) (by rfl) sc_law_names.nd rfl rfl (by decide) rfl rfl (pa_cons (pe_op op_mod (pe_callTy call_int1 (by rfl) T.b_int (by decide +kernel) (pa_cons (pe_op op_add (pe_op op_add (pv 7) pe_int) (pv 10)) pa_nil)) (pv 5)) (pa_cons (pe_lst pa_nil) pa_nil)) (by rfl))
      (pss_cons (ps_for PassesOwn.never rfl (pi_range1 (by rfl) T.b_range (pa_cons (pv 1) pa_nil)) (pg_name (i := 4) sc_law_names.nd rfl (.inl rfl))
        (pss_cons (ps_set (i := 13) sc_law_names.nd rfl (.inl rfl) (pe_slice sl_list (pv 3) po_none (po_some (pv 5))))
        (pss_cons (ps_cut (ps_if (pt_cmpR op_ne (pv 11) (pv 7) (nomark _))
          (pss_one (ps_asg (pe_ix ix_str (pv 2) (pe_op op_mod (pe_callTy call_int1 (by rfl) T.b_int (by decide +kernel) (pa_cons (pe_op op_add (pv 9) (pe_op op_fdiv (pv 4) pe_int)) pa_nil)) pe_int) (fun _ _ => rfl)) (pg_sub (pv 13) (pv 11) set_list)))
          pss_nil))
        (pss_cons (ps_asg (pe_ix ix_str (pv 2) (pe_op op_mod (pe_callTy call_int1 (by rfl) T.b_int (by decide +kernel) (pa_cons (pe_op op_add (pv 8) (pe_op op_mul pe_int (pv 4))) pa_nil)) pe_int) (fun _ _ => rfl)) (pg_sub (pv 13) (pv 7) set_list))
        (pss_cons (ps_cut (ps_if (pt_cmpR op_eq (pv 6) pe_int (nomark _))
          (pss_cons (ps_set (i := 14) sc_law_names.nd rfl (.inl rfl) (pe_ifExp (pt_cmpR op_le (pv 1) pe_int (nomark _)) (pv 7) (pe_callB (call_max2 rfl) (by rfl) T.b_max (by decide +kernel) (pa_cons (pv 7) (pa_cons (pv 11) pa_nil)))))
          (pss_one (ps_set (i := 13) sc_law_names.nd rfl (.inl rfl) (pe_op op_cat (pe_slice sl_list (pv 13) po_none (po_some (pe_op op_add (pv 14) pe_int))) (pe_slice sl_list (pv 3) po_none (po_some (pe_cal c_law_draw (hr.mono (by decide)) (by rfl) (pa_cons (pv 0) (pa_cons (pe_op op_sub pe_int (pv 14)) pa_nil)))))))))
          pss_nil))
        (pss_one (ps_expr (pe_bm PySem.F.plainAttrs_list PySem.F.slot_list_append PySem.F.type_list_append mt_append (pv 12) (pa_cons (pe_join pe_str (pv 13)) pa_nil)))))))))
      (pss_one (ps_ret (pv 12))))))))))), ?_⟩
    refine ⟨8, rfl, by decide, by decide, fun W nW => ?_⟩
    have s1 := same_new (o := .lst []) nW
    have hl1 : 1 ≤ letters.length := by rw [letters_len]; decide
    have hl2 : letters.length ≤ 1000 := by rw [letters_len]; decide
    obtain ⟨x1, hx1⟩ := D.ld
    obtain ⟨x2, hx2⟩ := D.ll
    have nWd : W ≠ d := (ne_of_none hx1 nW).symm
    have nWl : W ≠ l := (ne_of_none hx2 nW).symm
    refine lc_it walk_range (fun i H2 => But2 d l H H2 ∧ DealAt H2 d l ∧ ∃ ws : List Nat, H2 W = some (.lst (ws.map sg)) ∧ ws.length = i ∧ ∀ c ∈ ws, c ∈ letters.cps.toList) ⟨same_but2 s1, D.same s1, [], upd_same, rfl, fun c hc => nomatch hc⟩ (fun i H2 _ _ => trivial) ?_ ?_
    · rintro i x H2 H3 hi ⟨b2, D2, ws, w2, wl, wa⟩ ⟨rfl, rfl⟩
      have hi8 : i < 8 := hi
      refine ⟨rfl, _, rfl, _, rfl, d, l, .str letters, rfl, D2, .inl ⟨letters, rfl, hl1, hl2, fun H4 c D4 b4 hc => ?_⟩⟩
      refine ⟨ws.map sg, b4 _ _ w2 nWd nWl, by rw [List.length_map]; exact small1000 (by omega), fun y o oy q1 q2 => ?_, ?_, ws ++ [c], ?_, by rw [List.length_append, List.length_singleton, wl], fun c' hc' => ?_⟩
      · rw [upd_ne (ne_of_none oy nW)]
        exact b4 _ _ (b2 _ _ oy q1 q2) q1 q2
      · obtain ⟨ms, b, h1, h2, r⟩ := D4.ex
        exact ⟨⟨ms, b, by rw [upd_ne nWd.symm]; exact h1, by rw [upd_ne nWl.symm]; exact h2, r⟩, D4.ne⟩
      · rw [upd_same, List.map_append]
        rfl
      · rcases List.mem_append.mp hc' with q | q
        · exact wa c' q
        · rw [List.mem_singleton.mp q]
          exact hc
    · rintro H2 ⟨b2, D2, ws, w2, wl, wa⟩
      have wl : ws.length = 8 := wl
      refine ⟨_, rfl, _, _, rfl, rfl, false, blF (by decide), iteF (iteF ?_)⟩
      refine ⟨_, rfl, _, _, rfl, rfl, true, blT (by decide), iteT ⟨_, rfl, d, l, 8, rfl, D2, by decide, by decide, fun H3 r3 D3 b3 r30 r31 => ?_⟩⟩
      obtain ⟨ln, rfl⟩ := nat_of r30
      refine ⟨_, _, rfl, rfl, _, rfl, d, l, 3, rfl, D3, by decide, by decide, fun H4 lo D4 b4 lo0 lo1 => ⟨_, _, rfl, ?_⟩⟩
      refine ⟨_, rfl, _, rfl, d, l, _, rfl, D4, by omega, by omega, fun H5 r5 D5 b5 r50 r51 => ?_⟩
      obtain ⟨pl, rfl⟩ := nat_of r50
      refine ⟨_, rfl, d, l, 26, rfl, D5, by decide, by decide, fun H6 r6 D6 b6 r60 r61 => ?_⟩
      obtain ⟨fi, rfl⟩ := nat_of r60
      refine ⟨_, rfl, d, l, 26, rfl, D6, by decide, by decide, fun H7 se D7 b7 r70 r71 => ⟨_, _, _, rfl, ?_⟩⟩
      refine ⟨_, rfl, _, _, rfl, rfl, true, blT (by decide), iteT ⟨_, rfl, _, rfl, d, l, _, rfl, D7, by omega, by omega, fun H8 st D8 b8 s80 s81 => ?_⟩⟩
      have mo := mod_nn (i := (pl : Int) + 1 + st) (j := 1 + (ln : Int)) (by omega)
      refine ⟨_, rfl, _, _, rfl, rfl, _, rfl, _, _, rfl, rfl, .inl ⟨_, rfl, _, rfl, _, _, rfl, rfl, (by show (0 : Int) < 1 + (ln : Int); omega), Nat.zero_le _, fun f nf => ⟨_, _, rfl, ?_⟩⟩⟩
      obtain ⟨ot, hot⟩ : ∃ o, ((pl : Int) + 1 + st) % (1 + (ln : Int)) = o := ⟨_, rfl⟩
      rw [hot] at mo
      have bb : But2 d l H H8 := b2.trans (b3.trans (b4.trans (b5.trans (b6.trans (b7.trans b8)))))
      have w8 : H8 W = some (.lst (ws.map sg)) := b8 _ _ (b7 _ _ (b6 _ _ (b5 _ _ (b4 _ _ (b3 _ _ w2 nWd nWl) nWd nWl) nWd nWl) nWd nWl) nWd nWl) nWd nWl
      obtain ⟨y1, hy1⟩ := D8.ld
      obtain ⟨y2, hy2⟩ := D8.ll
      have nfd : f ≠ d := (ne_of_none hy1 nf).symm
      have nfl : f ≠ l := (ne_of_none hy2 nf).symm
      have nfH : H f = none := by
        cases e : H f with
        | none => rfl
        | some o =>
          have := bb _ _ e nfd nfl
          rw [nf] at this
          cases this
      have nfW : f ≠ W := (ne_of_none w8 nf).symm
      have s9 := same_new (o := .lst []) nf
      have K9 : NK d l W f ws [] H (upd H8 f (.lst [])) := ⟨bb.same s9, D8.same s9, s9 _ _ w8, upd_same, nWd, nWl, nfd, nfl, nfW⟩
      refine ⟨_, rfl, 12, rfl, by decide, by decide, for_it walk_range (fun i σ H9 => ∃ (v4 v13 v14 : Option V) (xs : List Str), σ = [some (.ref d), some (.int 12), some (.str letters), some (.ref W), v4, some (.int (1 + (ln : Int))), some (.int lo), some (.int (pl : Int)), some (.int (fi : Int)), some (.int se), some (.int st), some (.int ot), some (.ref f), v13, v14, none] ∧
        NK d l W f ws xs H H9 ∧ xs.length = i ∧ ∀ j x, xs[j]? = some x → NmAt pl fi j x) ⟨none, none, none, [], by rw [← hot]; rfl, K9, rfl, fun j x q => nomatch q⟩ (fun i σ H9 _ _ => trivial) ?_ ?_⟩
      · rintro i x σ H9 HA hi ⟨v4, v13, v14, xs, rfl, k9, xl, xn⟩ ⟨eH, hx⟩
        have eH := eH.symm
        subst eH
        have hi12 : i < 12 := hi
        obtain rfl : x = V.int (i : Int) := hx.trans (congrArg V.int (Int.zero_add _))
        -- signs = word[:length]
        refine ⟨_, rfl, _, rfl, _, rfl, W, _, rfl, .inl (.inl k9.kw), fun p np => ?_⟩
        have ep : (upd H9 p (.lst (cutV (ws.map sg) none (some (1 + (ln : Int)))))) p = some (.lst ((ws.take (1 + ln)).map sg)) := by
          rw [upd_same, show (1 + (ln : Int)) = ((1 + ln : Nat) : Int) by omega, cut_take, List.map_take]
        have kA := k9.set np k9 (o := .lst (cutV (ws.map sg) none (some (1 + (ln : Int)))))
        generalize upd H9 p (.lst (cutV (ws.map sg) none (some (1 + (ln : Int))))) = HA at ep kA
        obtain ⟨f0, f1, f2, f3, f4⟩ := k9.fresh np
        -- if other != place
        refine ⟨fun σ' H' => ∃ (v14 : Option V) (cs : List Nat), σ' = [some (.ref d), some (.int 12), some (.str letters), some (.ref W), some (.int (i : Int)), some (.int (1 + (ln : Int))), some (.int lo), some (.int (pl : Int)), some (.int (fi : Int)), some (.int se), some (.int st), some (.int ot), some (.ref f), some (.ref p), v14, none] ∧
          NK d l W f ws xs H H' ∧ H' p = some (.lst (cs.map sg)) ∧ cs.length = 1 + ln ∧ ∀ c ∈ cs, c ∈ letters.cps.toList, ?_, ?_⟩
        · refine ⟨_, rfl, _, rfl, rfl, _, rfl, ite2 (fun z => ?_) fun z => ?_⟩
          · have mm := mod_nn (i := se + (i : Int) / 26) (j := 26) (by decide)
            obtain ⟨c, hc, hcm⟩ := lettersAt mm.1 mm.2
            refine ⟨_, rfl, _, rfl, _, rfl, _, _, rfl, rfl, ⟨by decide, by decide⟩, _, _, rfl, rfl, .inl ⟨_, rfl, _, _, rfl, rfl, (by show (0 : Int) < 26; decide), letters, _, c, rfl, rfl, small hl2, hc, ?_⟩⟩
            refine ⟨_, rfl, _, rfl, p, _, _, ot.toNat, rfl, rfl, ep, ixN_int mo.1 ?_, ?_⟩
            · rw [List.length_map, List.length_take, wl]
              omega
            · refine ⟨_, (ws.take (1 + ln)).set ot.toNat c, rfl, k9.set np kA, ?_, ?_, fun c' hc' => ?_⟩
              · rw [upd_same, List.map_set]
                rfl
              · rw [List.length_set, List.length_take, wl]
                omega
              · rcases List.mem_or_eq_of_mem_set hc' with q | q
                · exact wa c' (List.mem_of_mem_take q)
                · rw [q]
                  exact hcm
          · exact ⟨_, ws.take (1 + ln), rfl, kA, ep, by rw [List.length_take, wl]; omega, fun c hc => wa c (List.mem_of_mem_take hc)⟩
        · rintro σ' HB ⟨v14, cs, rfl, kB, pB, cl, ca⟩
          -- signs[place] = ..
          have em : ((fi : Int) + 5 * (i : Int)) % 26 = (((fi + 5 * i) % 26 : Nat) : Int) := by omega
          have hn : (fi + 5 * i) % 26 < letters.cps.toList.length := by
            rw [show letters.cps.toList.length = 26 from letters_len]
            omega
          have hc := List.getElem?_eq_getElem hn
          have hcm := List.getElem_mem hn
          generalize letters.cps.toList[(fi + 5 * i) % 26] = c at hc hcm
          refine ⟨_, rfl, _, rfl, _, rfl, _, _, rfl, rfl, .inl ⟨by decide, by decide⟩, _, _, rfl, rfl, .inl ⟨_, rfl, _, _, rfl, rfl, (by show (0 : Int) < 26; decide), letters, _, c, rfl, rfl, small hl2, by rw [em]; exact atI_nat hc, ?_⟩⟩
          refine ⟨_, rfl, _, rfl, p, _, _, pl, rfl, rfl, pB, ixN_nat (by rw [List.length_map, cl]; omega), ?_⟩
          have pC : (upd HB p (.lst ((cs.map sg).set pl (.str ⟨#[c]⟩)))) p = some (.lst ((cs.set pl c).map sg)) := by
            rw [upd_same, List.map_set]
            rfl
          have kC := k9.set np kB (o := .lst ((cs.map sg).set pl (.str ⟨#[c]⟩)))
          generalize upd HB p (.lst ((cs.map sg).set pl (.str ⟨#[c]⟩))) = HC at pC kC
          have ca' : ∀ c' ∈ cs.set pl c, c' ∈ letters.cps.toList := fun c' hc' => by
            rcases List.mem_or_eq_of_mem_set hc' with q | q
            · exact ca c' q
            · rw [q]
              exact hcm
          have cl' : (cs.set pl c).length = 1 + ln := by rw [List.length_set, cl]
          have cp : (cs.set pl c)[pl]? = some c := List.getElem?_set_self (by omega)
          generalize cs.set pl c = ds at pC ca' cl' cp
          -- if loose == 0
          refine ⟨fun σ' H' => ∃ (p' : Addr) (v14 : Option V) (es : List Nat), σ' = [some (.ref d), some (.int 12), some (.str letters), some (.ref W), some (.int (i : Int)), some (.int (1 + (ln : Int))), some (.int lo), some (.int (pl : Int)), some (.int (fi : Int)), some (.int se), some (.int st), some (.int ot), some (.ref f), some (.ref p'), v14, none] ∧
            NK d l W f ws xs H H' ∧ H' p' = some (.lst (es.map sg)) ∧ 1 ≤ es.length ∧ es.length ≤ 8 ∧ es[pl]? = some c ∧ ∀ c ∈ es, c ∈ letters.cps.toList, ?_, ?_⟩
          · refine ⟨_, rfl, rfl, _, rfl, ite2 (fun z => ?_) fun z => ?_⟩
            · refine ⟨_, rfl, _, _, rfl, rfl, true, blT (by decide), iteT ⟨_, rfl, ?_⟩⟩
              refine ⟨_, rfl, _, rfl, _, _, rfl, rfl, _, rfl, p, _, rfl, .inl (.inl pC), fun q nq => ?_⟩
              have qD : (upd HC q (.lst (cutV (ds.map sg) none (some ((pl : Int) + 1))))) q = some (.lst ((ds.take (pl + 1)).map sg)) := by
                rw [upd_same, show ((pl : Int) + 1) = ((pl + 1 : Nat) : Int) by omega, cut_take, List.map_take]
              have kD := kC.set nq kC (o := .lst (cutV (ds.map sg) none (some ((pl : Int) + 1))))
              generalize upd HC q (.lst (cutV (ds.map sg) none (some ((pl : Int) + 1)))) = HD at qD kD
              obtain ⟨g0, g1, g2, g3, g4⟩ := kC.fresh nq
              refine ⟨_, rfl, _, rfl, _, rfl, _, _, rfl, rfl, d, l, _, rfl, kD.kd, by omega, by omega, fun HE r DE bE r0 r1 => ?_⟩
              obtain ⟨kk, rfl⟩ := nat_of r0
              have kE := kD.draw DE bE
              have qE := bE _ _ qD g1 g2
              refine ⟨_, rfl, W, _, rfl, .inl (.inl kE.kw), fun u nu => ?_⟩
              have uF : (upd HE u (.lst (cutV (ws.map sg) none (some (kk : Int))))) u = some (.lst ((ws.take kk).map sg)) := by
                rw [upd_same, cut_take, List.map_take]
              have sF := same_new (o := .lst (cutV (ws.map sg) none (some (kk : Int)))) nu
              have kF := kE.same sF
              have qF := sF _ _ qE
              generalize upd HE u (.lst (cutV (ws.map sg) none (some (kk : Int)))) = HF at uF kF qF
              refine ⟨q, u, _, _, rfl, rfl, qF, uF, small (by rw [List.length_map, List.length_map, List.length_take, List.length_take]; omega), fun z nz => ?_⟩
              refine ⟨z, _, ds.take (pl + 1) ++ ws.take kk, rfl, kF.set nz kF, ?_, ?_, ?_, ?_, fun c' hc' => ?_⟩
              · rw [upd_same, List.map_append]
              · rw [List.length_append, List.length_take]
                omega
              · rw [List.length_append, List.length_take, List.length_take]
                omega
              · rw [List.getElem?_append_left (by rw [List.length_take]; omega), List.getElem?_take_of_lt (by omega)]
                exact cp
              · rcases List.mem_append.mp hc' with q | q
                · exact ca' c' (List.mem_of_mem_take q)
                · exact wa c' (List.mem_of_mem_take q)
            · exact ⟨p, _, ds, rfl, kC, pC, by omega, by omega, cp, ca'⟩
          · rintro σ' HD ⟨p', v14', es, rfl, kD, pD, el1, el8, ec, ea⟩
            refine ⟨_, rfl, .inl ⟨rfl, _, .inl (.inl kD.kf)⟩, ⟨_, rfl⟩, _, rfl, ("" : Str), p', es.map (fun c => (⟨#[c]⟩ : Str)), rfl, rfl, .inl (.inl (.inl (by rw [← sg_map]; exact pD))), ?_, ?_⟩
            · rw [sg_sum, show ("" : Str).length = 0 from rfl, Nat.mul_zero]
              omega
            · have ej := join_app es
              generalize Txt.join ("" : Str) (es.map fun c => (⟨#[c]⟩ : Str)) = y at ej
              have yl : y.length = es.length := by
                rw [← ej, Array.length_toList]
                rfl
              refine ⟨f, _, _, rfl, rfl, kD.kf, by rw [List.length_map]; exact small1000 (by omega), ?_⟩
              refine ⟨_, _, _, xs ++ [y], rfl, ⟨fun x o ox q1 q2 => ?_, ?_, ?_, ?_, kD.kn⟩, by rw [List.length_append, List.length_singleton, xl], fun j x hj => ?_⟩
              · rw [upd_ne (ne_of_none ox nfH)]
                exact kD.kb _ _ ox q1 q2
              · obtain ⟨ms, b, h1, h2, r⟩ := kD.kd.ex
                exact ⟨⟨ms, b, by rw [upd_ne nfd.symm]; exact h1, by rw [upd_ne nfl.symm]; exact h2, r⟩, kD.kd.ne⟩
              · rw [upd_ne nfW.symm]
                exact kD.kw
              · rw [upd_same, List.map_append]
                rfl
              · by_cases hjx : j < xs.length
                · rw [List.getElem?_append_left hjx] at hj
                  exact xn j x hj
                · rw [List.getElem?_append_right (by omega)] at hj
                  have hj1 := (List.getElem?_eq_some_iff.mp hj).1
                  rw [List.length_singleton] at hj1
                  have hj0 : j = i := by omega
                  subst hj0
                  rw [xl, Nat.sub_self] at hj
                  cases hj
                  refine ⟨⟨by omega, by omega, fun c' hc' => ?_⟩, c, by rw [ej]; exact ec, hc⟩
                  rw [ej] at hc'
                  exact ea c' hc'
      · rintro σ H9 ⟨v4, v13, v14, xs, rfl, k9, xl, xn⟩
        have xl : xs.length = 12 := xl
        refine ⟨_, rfl, k H9 f xs k9.kd k9.kb nfH k9.kf xl (nm_nodup xl xn) fun x hx => ?_⟩
        obtain ⟨j, hj, e⟩ := List.getElem_of_mem hx
        exact (xn j x (by rw [List.getElem?_eq_getElem hj, e])).1
end
end K19
end

section
set_option Elab.async false
set_option linter.all false
set_option maxRecDepth 100000
set_option maxHeartbeats 8000000
/-! N4: the law's events. -/
namespace K19
open PySem L2 K19M
/-! ### the plain side -/
def came (evs : List (Bool × Str)) : List Str := (evs.filter (·.1)).map (·.2)
theorem came_app (evs : List (Bool × Str)) (e : Bool × Str) : came (evs ++ [e]) = came evs ++ (if e.1 = true then [e.2] else []) := by
  unfold came
  rw [List.filter_append, List.map_append]
  congr 1
  show List.map _ (List.filter _ [e]) = _
  rw [List.filter_cons]
  split <;> rfl
theorem TT_snoc {p : Nat} : ∀ {evs : List (Bool × Str)} {C B : List Str} {e : Bool × Str}, TT p C B evs → (if e.1 = true then e.2 ∉ C ++ came evs ∧ (evs.foldl stB B).length < p else e.2 ∈ evs.foldl stB B) → TT p C B (evs ++ [e])
  | [], C, B, (true, x), _, h => ⟨⟨fun z => h.1 (List.mem_append_left _ z), h.2⟩, trivial⟩
  | [], C, B, (false, x), _, h => ⟨h, trivial⟩
  | (true, y) :: evs, C, B, e, ⟨h1, h2⟩, h => by
    refine ⟨h1, TT_snoc h2 ?_⟩
    have ec : came ((true, y) :: evs) = y :: came evs := rfl
    rw [ec] at h
    show if e.1 = true then e.2 ∉ (C ++ [y]) ++ came evs ∧ _ else _
    rw [List.append_assoc]
    exact h
  | (false, y) :: evs, C, B, e, ⟨h1, h2⟩, h => ⟨h1, TT_snoc h2 h⟩
theorem erase_at {T : List Str} {k : Nat} {x : Str} (nd : T.Nodup) (h : T[k]? = some x) : T.eraseIdx k = T.erase x := by
  induction T generalizing k with
  | nil => cases h
  | cons a T ih =>
    obtain ⟨n1, n2⟩ := List.nodup_cons.mp nd
    cases k with
    | zero =>
      cases h
      rw [List.eraseIdx_cons_zero, List.erase_cons_head]
    | succ k =>
      have hx : x ∈ T := List.mem_of_getElem? h
      have hne : ¬ (a == x) = true := fun z => n1 ((beq_iff_eq.mp z) ▸ hx)
      rw [List.eraseIdx_cons_succ, List.erase_cons_tail hne, ih n2 h]
structure GI (p : Nat) (names : List Str) (evs : List (Bool × Str)) (T F : List Str) : Prop where
  tt : TT p [] [] evs
  t : T = evs.foldl stB []
  nT : T.Nodup
  lT : T.length ≤ p
  tn : ∀ x ∈ T, x ∈ names
  ev : ∀ e ∈ evs, e.2 ∈ names
  fc : ∀ x ∈ F, x ∉ came evs
  fn : ∀ x ∈ F, x ∈ names
  nF : F.Nodup
  cm : ∀ x ∈ T, x ∈ came evs
theorem GI.inn {p : Nat} {names : List Str} {evs : List (Bool × Str)} {T F : List Str} {x : Str} (g : GI p names evs T (F ++ [x])) (h : T.length < p) : GI p names (evs ++ [(true, x)]) (T ++ [x]) F := by
  have xc : x ∉ came evs := g.fc x (List.mem_append_right _ (List.mem_singleton.mpr rfl))
  have xn : x ∈ names := g.fn x (List.mem_append_right _ (List.mem_singleton.mpr rfl))
  have ca : came (evs ++ [(true, x)]) = came evs ++ [x] := came_app evs (true, x)
  refine ⟨TT_snoc g.tt ⟨xc, by rw [← g.t]; exact h⟩, ?_, ?_, ?_, fun y hy => ?_, fun e he => ?_, fun y hy => ?_, fun y hy => g.fn y (List.mem_append_left _ hy), g.nF.sublist (List.sublist_append_left _ _), fun y hy => ?_⟩
  · rw [List.foldl_append, ← g.t]
    rfl
  · exact List.nodup_append.mpr ⟨g.nT, List.nodup_cons.mpr ⟨List.not_mem_nil, List.nodup_nil⟩, fun a ha b hb e => by
      rw [List.mem_singleton.mp hb] at e
      exact xc (e ▸ g.cm a ha)⟩
  · rw [List.length_append, List.length_singleton]
    omega
  · rcases List.mem_append.mp hy with q | q
    · exact g.tn y q
    · rw [List.mem_singleton.mp q]
      exact xn
  · rcases List.mem_append.mp he with q | q
    · exact g.ev e q
    · rw [List.mem_singleton.mp q]
      exact xn
  · rw [ca]
    intro z
    rcases List.mem_append.mp z with q | q
    · exact g.fc y (List.mem_append_left _ hy) q
    · rw [List.mem_singleton.mp q] at hy
      exact (List.nodup_append.mp g.nF).2.2 x hy x (List.mem_singleton.mpr rfl) rfl
  · rw [ca]
    rcases List.mem_append.mp hy with q | q
    · exact List.mem_append_left _ (g.cm y q)
    · exact List.mem_append_right _ q
theorem GI.out {p : Nat} {names : List Str} {evs : List (Bool × Str)} {T F : List Str} {x : Str} {k : Nat} (g : GI p names evs T F) (h : T[k]? = some x) : GI p names (evs ++ [(false, x)]) (T.eraseIdx k) F := by
  have hx : x ∈ T := List.mem_of_getElem? h
  have ca : came (evs ++ [(false, x)]) = came evs := (came_app evs (false, x)).trans (List.append_nil _)
  have sub := List.eraseIdx_sublist T k
  refine ⟨TT_snoc g.tt ?_, ?_, g.nT.sublist sub, Nat.le_trans sub.length_le g.lT, fun y hy => g.tn y (sub.subset hy), fun e he => ?_, fun y hy => by rw [ca]; exact g.fc y hy, g.fn, g.nF, fun y hy => by rw [ca]; exact g.cm y (sub.subset hy)⟩
  · show x ∈ evs.foldl stB []
    rw [← g.t]
    exact hx
  · rw [List.foldl_append, ← g.t, erase_at g.nT h]
    rfl
  · rcases List.mem_append.mp he with q | q
    · exact g.ev e q
    · rw [List.mem_singleton.mp q]
      exact g.tn x hx
theorem letters_ok : ∀ c ∈ letters.cps.toList, c < 0x110000 := by decide +kernel
theorem name_ok {x : Str} (h : NameOk x) : PyData.strOk x = true := by
  unfold PyData.strOk
  rw [← Array.all_toList, List.all_eq_true]
  exact fun c hc => decide_eq_true (letters_ok c (h.2.2 c hc))
theorem canLay_strs : ∀ xs : List Str, (∀ x ∈ xs, NameOk x) → PyData.canLayAll0 (xs.map PyData.str) = true
  | [], _ => by simp [PyData.canLayAll0]
  | x :: xs, h => by
    simp only [List.map_cons, PyData.canLayAll0, PyData.canLay0]
    rw [name_ok (h x List.mem_cons_self), canLay_strs xs fun y hy => h y (List.mem_cons_of_mem _ hy)]
    rfl
theorem depth_strs : ∀ xs : List Str, PyData.depthAll (xs.map PyData.str) = 0
  | [] => by simp [PyData.depthAll]
  | x :: xs => by
    simp only [List.map_cons, PyData.depthAll, PyData.depth, depth_strs xs]
    rfl
theorem shaped_strs {xs : List Str} (h : ∀ x ∈ xs, NameOk x) : SeqAt.shaped (.list (xs.map PyData.str)) = true := by
  show (PyData.canLay0 (.list (xs.map PyData.str)) && decide (PyData.depth (.list (xs.map PyData.str)) ≤ 64)) = true
  simp only [PyData.canLay0, PyData.depth, canLay_strs xs h, depth_strs xs]
  decide
theorem eqv_nilS (xs : List Str) : PyData.eqv (.list (xs.map PyData.str)) (.list []) = decide (xs = []) := by
  cases xs with
  | nil => rfl
  | cons a xs => rfl
/-! ### in the heap -/
section
variable {H0 H H' H1 H2 : Hp} {K : PySem.W.Frag}
structure EK (K : PySem.W.Frag) (d l th ev fr : Addr) (T F : List Str) (evs : List (Bool × Str)) (H0 H' : Hp) : Prop where
  kb : But2 d l H0 H'
  kd : DealAt H' d l
  kt : H' th = some (.lst (T.map V.str))
  ke : ∃ acc, H' ev = some (.lst acc) ∧ DtAll K H' acc (evs.map evD)
  kf : H' fr = some (.lst (F.map V.str))
structure EN (d l th ev fr : Addr) (H0 : Hp) : Prop where
  a1 : th ≠ d
  a2 : th ≠ l
  a3 : ev ≠ d
  a4 : ev ≠ l
  a5 : fr ≠ d
  a6 : fr ≠ l
  a7 : th ≠ ev
  a8 : th ≠ fr
  a9 : ev ≠ fr
  b1 : H0 th = none
  b2 : H0 ev = none
  b3 : H0 fr = none
variable {d l th ev fr : Addr} {T F : List Str} {evs : List (Bool × Str)}
theorem EK.same (k : EK K d l th ev fr T F evs H0 H1) (s : Same H1 H2) : EK K d l th ev fr T F evs H0 H2 := by
  obtain ⟨acc, h1, h2⟩ := k.ke
  exact ⟨k.kb.same s, k.kd.same s, s _ _ k.kt, ⟨acc, s _ _ h1, DtAll.mono (tex s) _ _ h2⟩, s _ _ k.kf⟩
theorem EK.draw (k : EK K d l th ev fr T F evs H0 H1) (n : EN d l th ev fr H0) (D : DealAt H2 d l) (b : But2 d l H1 H2) : EK K d l th ev fr T F evs H0 H2 := by
  obtain ⟨acc, h1, h2⟩ := k.ke
  exact ⟨k.kb.trans b, D, b _ _ k.kt n.a1 n.a2, ⟨acc, b _ _ h1 n.a3 n.a4, DtAll.mono (b.tex k.kd) _ _ h2⟩, b _ _ k.kf n.a5 n.a6⟩
theorem deal_upd {x : Addr} {o : HO} (D : DealAt H1 d l) (h1 : x ≠ d) (h2 : x ≠ l) : DealAt (upd H1 x o) d l := by
  obtain ⟨ms, b, e1, e2, r⟩ := D.ex
  exact ⟨⟨ms, b, by rw [upd_ne h1.symm]; exact e1, by rw [upd_ne h2.symm]; exact e2, r⟩, D.ne⟩
theorem but2_upd {x : Addr} {o : HO} (b : But2 d l H0 H1) (h : H0 x = none) : But2 d l H0 (upd H1 x o) := fun y u hy q1 q2 => by
  rw [upd_ne (ne_of_none hy h)]
  exact b y u hy q1 q2
theorem EK.setT (k : EK K d l th ev fr T F evs H0 H1) (n : EN d l th ev fr H0) (T' : List Str) : EK K d l th ev fr T' F evs H0 (upd H1 th (.lst (T'.map V.str))) := by
  obtain ⟨acc, h1, h2⟩ := k.ke
  exact ⟨but2_upd k.kb n.b1, deal_upd k.kd n.a1 n.a2, upd_same, ⟨acc, by rw [upd_ne n.a7.symm]; exact h1, DtAll.mono (tupEx_lst k.kt) _ _ h2⟩, by rw [upd_ne n.a8.symm]; exact k.kf⟩
theorem EK.setF (k : EK K d l th ev fr T F evs H0 H1) (n : EN d l th ev fr H0) (F' : List Str) : EK K d l th ev fr T F' evs H0 (upd H1 fr (.lst (F'.map V.str))) := by
  obtain ⟨acc, h1, h2⟩ := k.ke
  exact ⟨but2_upd k.kb n.b3, deal_upd k.kd n.a5 n.a6, by rw [upd_ne n.a8]; exact k.kt, ⟨acc, by rw [upd_ne n.a9]; exact h1, DtAll.mono (tupEx_lst k.kf) _ _ h2⟩, upd_same⟩
theorem EK.setE (k : EK K d l th ev fr T F evs H0 H1) (n : EN d l th ev fr H0) {acc : List V} {q : Addr} {e : Bool × Str} (h1 : H1 ev = some (.lst acc)) (h2 : DtAll K H1 acc (evs.map evD)) (h3 : Dt K H1 (.ref q) (evD e)) :
    EK K d l th ev fr T F (evs ++ [e]) H0 (upd H1 ev (.lst (acc ++ [.ref q]))) := by
  have m := tupEx_lst (K := K) (o := .lst (acc ++ [.ref q])) h1
  refine ⟨but2_upd k.kb n.b2, deal_upd k.kd n.a3 n.a4, by rw [upd_ne n.a7]; exact k.kt, ⟨_, upd_same, ?_⟩, by rw [upd_ne n.a9.symm]; exact k.kf⟩
  rw [List.map_append]
  exact DtAll.app (DtAll.mono m _ _ h2) (.cons (Dt.mono m _ _ h3) .nil)
end
def tCutT (t : TT) : TT := fun σ H Q => ∃ R : Bool → Hp → Prop, t σ H R ∧ ∀ b H', R b H' → Q b H'
theorem pt_cut {X : Cx} {e : Expr} {t : TT} (he : PT X e t) : PT X e (tCutT t) :=
  ⟨fun pins s σ H Q I ⟨R, h, k⟩ => thn (he.run pins s σ H R I h) fun _ _ ⟨H', I', q⟩ => ⟨H', I', k _ H' q⟩⟩
section
variable {P : Program} {w : World} {K : PySem.W.Frag} {mg : Str → Option Value} {base : Heap} {Z : Za}
def sp_law_events (K : PySem.W.Frag) (Z : Za) : Sp := fun vs H Q _ => ∃ (d l n : Addr) (names : List Str) (p m wd : Nat), vs = [.ref d, .ref n, .int (p : Int), .int (m : Int), .int (wd : Int)] ∧ DealAt H d l ∧ H n = some (.lst (names.map V.str)) ∧ n ≠ d ∧ n ≠ l ∧ names.Nodup ∧ (∀ x ∈ names, NameOk x) ∧
  names.length ≤ 100 ∧ 1 ≤ p ∧ p ≤ 100 ∧ m ≤ 50 ∧ 1 ≤ wd ∧ wd ≤ 100 ∧
  ∀ (H' : Hp) (q : Addr) (evs : List (Bool × Str)), DealAt H' d l → But2 d l H H' → TimAt K H' q evs → TT p [] [] evs → (∀ e ∈ evs, e.2 ∈ names) → evs.length ≤ m → Q (.ref q) H'
theorem c_law_events {f : Addr} {fd : FuncData} (F : Fun K "_law_events" "_law_events" s_law_events f fd) (g : mg "_law_events" = some (.ref f)) (T : Bl mg) (c_law_draw : Cal P w K mg base 1 "_law_draw" ["_law_deal_here", "_law_bound"] (sp_law_draw K Z))  : Cal P w K mg base 2 "_law_events" ["_law_deal_here", "_law_names_here", "_law_most", "_law_many", "_law_widest"] (sp_law_events K Z) := by
  refine ⟨f, fd, g, F.kp, F.binds (ps := ["_law_deal_here", "_law_names_here", "_law_most", "_law_many", "_law_widest"]) fun _ _ _ _ _ _ us hl => match us, hl with | [_, _, _, _, _], _ => rfl, F.ok sc_law_events (fun vs H Q E h => ?_) (fun cdv A outer s H vs Q E hr h => ?_)⟩
  · obtain ⟨d, l, n, names, p, m, wd, rfl, _⟩ := h
    rfl
  · obtain ⟨d, l, n, names, p, m, wd, rfl, D, hn, nd1, nd2, nd, nok, nlen, p1, p2, m1, w1, w2, k⟩ := h
    refine ⟨_, (pss_cons (ps_asg (pe_tup (pa_cons (pe_lst pa_nil) (pa_cons (pe_lst pa_nil) (pa_cons (pe_callTy call_list_of (by rfl) T.b_list (by decide +kernel) (pa_cons (pv 1) pa_nil)) (pa_cons (pe_cal c_law_draw (hr.mono (by decide)) (by rfl) (pa_cons (pv 0) (pa_cons pe_int pa_nil))) pa_nil))))) (pg_tup rfl (pgs_cons (pg_name (i := 5) sc_law_events.nd rfl (.inl rfl)) (pgs_cons (pg_name (i := 6) sc_law_events.nd rfl (.inl rfl)) (pgs_cons (pg_name (i := 7) sc_law_events.nd rfl (.inl rfl)) (pgs_cons (pg_name (i := 8) sc_law_events.nd rfl (.inl rfl)) pgs_nil))))))
      (pss_cons (ps_set (i := 9) sc_law_events.nd rfl (.inl rfl) (pe_op op_add pe_int (pe_cal c_law_draw (hr.mono (by decide)) (by rfl) (pa_cons (pv 0) (pa_cons (pe_callB (call_min2 rfl) (by rfl) T.b_min (by decide +kernel) (pa_cons (pv 2) (pa_cons (pv 4) pa_nil))) pa_nil)))))
      (pss_cons (ps_set (i := 10) sc_law_events.nd rfl (.inl rfl) (pe_cal c_law_draw (hr.mono (by decide)) (by rfl) (pa_cons (pv 0) (pa_cons (pe_op op_add (pv 9) pe_int) pa_nil))))
      (pss_cons (ps_for PassesOwn.never rfl (pi_range1 (by rfl) T.b_range (pa_cons (pv 3) pa_nil)) (pg_name (i := 11) sc_law_events.nd rfl (.inl rfl))
        (pss_cons (ps_set (i := 12) sc_law_events.nd rfl (.inl rfl) (pe_op op_sub (pv 2) (pe_callB call_len_seq (by rfl) T.b_len PySem.boot_len (pa_cons (pv 5) pa_nil))))
        (pss_cons (ps_cut (ps_if (pt_cmpR op_eq (pv 12) (pv 10) (nomark _))
          (pss_cons (ps_set (i := 10) sc_law_events.nd rfl (.inl rfl) (pe_cal c_law_draw (hr.mono (by decide)) (by rfl) (pa_cons (pv 0) (pa_cons (pe_op op_add (pv 9) pe_int) pa_nil))))
          (pss_one (ps_if (pt_cmpR op_eq (pv 12) (pv 10) (nomark _))
            (pss_one (ps_set (i := 10) sc_law_events.nd rfl (.inl rfl) (pe_cut (pe_ifExp (PW.pt (pw_and (pt_cmpR op_gt (pv 12) pe_int (nomark _)) (pw_and1 (PW.pt (pw_or (pt_cmpR op_ge (pv 12) (pv 9) (nomark _)) (pw_or1 (pt_cmpR op_eq (pe_cal c_law_draw (hr.mono (by decide)) (by rfl) (pa_cons (pv 0) (pa_cons pe_int pa_nil))) pe_int (nomark _)))))))) (pe_op op_sub (pv 12) pe_int) (pe_op op_add (pv 12) pe_int)))))
            pss_nil)))
          pss_nil))
        (pss_one (ps_if (pt_cut (PW.pt (pw_and (pt_cmpR op_gt (pv 12) (pv 10) (nomark _)) (pw_and1 (pt_cmpR (op_neD hr.units) (pv 7) (pe_lst pa_nil) (nomark _))))))
          (pss_cons (ps_set (i := 13) sc_law_events.nd rfl (.inl rfl) (pe_bm0 PySem.F.plainAttrs_list PySem.F.slot_list_pop PySem.F.type_list_pop mt_pop (pv 7)))
          (pss_cons (ps_expr (pe_bm PySem.F.plainAttrs_list PySem.F.slot_list_append PySem.F.type_list_append mt_append (pv 5) (pa_cons (pv 13) pa_nil)))
          (pss_one (ps_expr (pe_bm PySem.F.plainAttrs_list PySem.F.slot_list_append PySem.F.type_list_append mt_append (pv 6) (pa_cons (pe_tup (pa_cons pe_str (pa_cons (pv 13) pa_nil))) pa_nil))))))
          (pss_one (ps_if (pt_cmpR (op_neD hr.units) (pv 5) (pe_lst pa_nil) (nomark _))
            (pss_cons (ps_set (i := 14) sc_law_events.nd rfl (.inl rfl) (pe_op op_sub (pe_callB call_len_seq (by rfl) T.b_len PySem.boot_len (pa_cons (pv 5) pa_nil)) pe_int))
            (pss_cons (ps_set (i := 15) sc_law_events.nd rfl (.inl rfl) (pe_ix ix_list (pe_lst (pa_cons pe_int (pa_cons pe_int (pa_cons (pe_callB (call_min2 rfl) (by rfl) T.b_min (by decide +kernel) (pa_cons pe_int (pa_cons (pv 14) pa_nil))) (pa_cons (pe_cal c_law_draw (hr.mono (by decide)) (by rfl) (pa_cons (pv 0) (pa_cons (pe_op op_add (pv 14) pe_int) pa_nil))) (pa_cons (pv 14) (pa_cons (pe_callB (call_max2 rfl) (by rfl) T.b_max (by decide +kernel) (pa_cons (pe_op op_sub (pv 14) (pe_cal c_law_draw (hr.mono (by decide)) (by rfl) (pa_cons (pv 0) (pa_cons pe_int pa_nil)))) (pa_cons pe_int pa_nil))) pa_nil))))))) (pv 8) (fun _ _ => rfl)))
            (pss_cons (ps_set (i := 13) sc_law_events.nd rfl (.inl rfl) (pe_bm PySem.F.plainAttrs_list PySem.F.slot_list_pop PySem.F.type_list_pop mt_popAt (pv 5) (pa_cons (pv 15) pa_nil)))
            (pss_one (ps_expr (pe_bm PySem.F.plainAttrs_list PySem.F.slot_list_append PySem.F.type_list_append mt_append (pv 6) (pa_cons (pe_tup (pa_cons pe_str (pa_cons (pv 13) pa_nil))) pa_nil)))))))
            pss_nil)))))))
      (pss_one (ps_ret (pe_callTy call_tuple_of (by rfl) T.b_tuple (by decide +kernel) (pa_cons (pv 6) pa_nil)))))))), ?_⟩
    refine ⟨Nat.zero_le _, fun th nth => ⟨Nat.zero_le _, fun ev nev => ?_⟩⟩
    have s1 := same_new (o := .lst []) nth
    have s2 := same_new (o := .lst []) nev
    have s12 := s1.trans s2
    refine ⟨_, rfl, n, names.map V.str, rfl, .inl (.inl (.inl (s12 _ _ hn))), fun fr nfr => ⟨_, rfl, d, l, 6, rfl, ?_⟩⟩
    have s3 := same_new (o := .lst (names.map V.str)) nfr
    have s123 := s12.trans s3
    obtain ⟨x1, hx1⟩ := D.ld
    obtain ⟨x2, hx2⟩ := D.ll
    have N : EN d l th ev fr H := by
      refine ⟨(ne_of_none hx1 nth).symm, (ne_of_none hx2 nth).symm, (ne_of_none (s1 _ _ hx1) nev).symm, (ne_of_none (s1 _ _ hx2) nev).symm, (ne_of_none (s12 _ _ hx1) nfr).symm, (ne_of_none (s12 _ _ hx2) nfr).symm,
        ne_of_none upd_same nev, ne_of_none (s2 _ _ upd_same) nfr, ne_of_none upd_same nfr, nth, s1.free nev, s12.free nfr⟩
    have k0 : EK K d l th ev fr [] names [] H (upd (upd (upd H th (.lst [])) ev (.lst [])) fr (.lst (names.map V.str))) :=
      ⟨same_but2 s123, D.same s123, s3 _ _ (s2 _ _ upd_same), ⟨[], s3 _ _ upd_same, .nil⟩, upd_same⟩
    refine ⟨k0.kd, by decide, by decide, fun H1 sty D1 b1 sty0 sty1 => ⟨(by show 4 ≤ sizeLine; decide), fun tq ntq => ?_⟩⟩
    have k1 := k0.draw N D1 b1
    have s4 := same_new (o := .tup [.ref th, .ref ev, .ref fr, .int sty]) ntq
    have k2 := k1.same s4
    refine ⟨tq, _, rfl, .inl (.inl upd_same), rfl, _, _, rfl, _, _, rfl, _, _, rfl, _, _, rfl, rfl, ?_⟩
    generalize upd H1 tq (.tup [.ref th, .ref ev, .ref fr, .int sty]) = H2 at k2
    refine ⟨_, rfl, _, rfl, _, rfl, _, _, rfl, d, l, _, rfl, k2.kd, (by show 1 ≤ (if (wd : Int) < (p : Int) then (wd : Int) else (p : Int)); split <;> omega), (by show (if (wd : Int) < (p : Int) then (wd : Int) else (p : Int)) < 1000000; split <;> omega), fun H3 na D3 b3 na0 na1 => ?_⟩
    have k3 := k2.draw N D3 b3
    have na2 : na < 100 := by
      have : na < (if (wd : Int) < (p : Int) then (wd : Int) else (p : Int)) := na1
      split at this <;> omega
    refine ⟨_, _, rfl, rfl, _, rfl, _, rfl, _, _, rfl, rfl, d, l, _, rfl, k3.kd, (by show 1 ≤ 1 + na + 1; omega), (by show 1 + na + 1 < 1000000; omega), fun H4 go D4 b4 go0 go1 => ?_⟩
    have k4 := k3.draw N D4 b4
    refine ⟨_, rfl, (m : Int), rfl, by omega, by omega, for_it walk_range (fun i σ H5 => ∃ (v11 v12 v13 v14 v15 : Option V) (go : Int) (T F : List Str) (evs : List (Bool × Str)), σ = [some (.ref d), some (.ref n), some (.int (p : Int)), some (.int (m : Int)), some (.int (wd : Int)), some (.ref th), some (.ref ev), some (.ref fr), some (.int sty), some (.int (1 + na)), some (.int go), v11, v12, v13, v14, v15] ∧
      EK K d l th ev fr T F evs H H5 ∧ GI p names evs T F ∧ 0 ≤ go ∧ evs.length ≤ i) ⟨_, _, _, _, _, go, [], names, [], rfl, k4, ?_, go0, Nat.le_refl _⟩ (fun i σ H5 _ _ => trivial) ?_ ?_⟩
    · exact ⟨trivial, rfl, List.nodup_nil, Nat.zero_le _, (fun x hx => nomatch hx), (fun e he => nomatch he), (fun x _ hx => nomatch hx), (fun x hx => hx), nd, fun x hx => nomatch hx⟩
    · rintro i x σ H5 H6 hi ⟨v11, v12, v13, v14, v15, go, T, F, evs, rfl, k5, g5, go0, el⟩ ⟨eH, hx⟩
      have eH := eH.symm
      subst eH
      have him : i < m := by
        have : i < (m : Int).toNat := hi
        omega
      have lT := g5.lT
      refine ⟨_, rfl, _, rfl, th, _, rfl, .inl (.inl (.inl k5.kt)), _, _, rfl, rfl, ?_⟩
      have eF : (p : Int) - ((T.map V.str).length : Int) = ((p - T.length : Nat) : Int) := by
        rw [List.length_map]
        omega
      -- the goal is set anew
      refine ⟨fun σ' H' => ∃ (go : Int), σ' = [some (.ref d), some (.ref n), some (.int (p : Int)), some (.int (m : Int)), some (.int (wd : Int)), some (.ref th), some (.ref ev), some (.ref fr), some (.int sty), some (.int (1 + na)), some (.int go), some x, some (.int ((p : Int) - ((T.map V.str).length : Int))), v13, v14, v15] ∧
        EK K d l th ev fr T F evs H H' ∧ 0 ≤ go, ?_, ?_⟩
      · refine ⟨_, rfl, _, rfl, rfl, _, rfl, ite2 (fun _ => ?_) fun _ => ⟨go, rfl, k5, go0⟩⟩
        refine ⟨_, rfl, _, rfl, _, _, rfl, rfl, d, l, _, rfl, k5.kd, (by show 1 ≤ 1 + na + 1; omega), (by show 1 + na + 1 < 1000000; omega), fun H6 g2 D6 b6 g20 g21 => ?_⟩
        have k6 := k5.draw N D6 b6
        refine ⟨_, rfl, _, rfl, rfl, _, rfl, ite2 (fun _ => ?_) fun _ => ⟨g2, rfl, k6, g20⟩⟩
        refine ⟨fun v H' => ∃ g3, v = .int g3 ∧ 0 ≤ g3 ∧ EK K d l th ev fr T F evs H H', ?_, ?_⟩
        · have up : ∀ H', EK K d l th ev fr T F evs H H' → ∃ g3, V.int ((p : Int) - ((T.map V.str).length : Int) + 1) = .int g3 ∧ 0 ≤ g3 ∧ EK K d l th ev fr T F evs H H' := fun H' kk => ⟨_, rfl, by omega, kk⟩
          refine ⟨_, rfl, _, _, rfl, rfl, _, rfl, ite2 (fun z1 => ?_) fun z1 => iteF ⟨_, rfl, _, _, rfl, rfl, up _ k6⟩⟩
          have zf : 0 < (p : Int) - ((T.map V.str).length : Int) := of_decide_eq_true z1
          have dn : ∀ H', EK K d l th ev fr T F evs H H' → ∃ g3, V.int ((p : Int) - ((T.map V.str).length : Int) - 1) = .int g3 ∧ 0 ≤ g3 ∧ EK K d l th ev fr T F evs H H' := fun H' kk => ⟨_, rfl, by omega, kk⟩
          refine ⟨_, rfl, _, rfl, _, _, rfl, rfl, _, rfl, ite2 (fun z2 => iteT ⟨_, rfl, _, _, rfl, rfl, dn _ k6⟩) fun z2 => ?_⟩
          refine ⟨_, rfl, d, l, 2, rfl, k6.kd, by decide, by decide, fun H7 g4 D7 b7 _ _ => ⟨rfl, _, rfl, ite2 (fun z3 => ⟨_, rfl, _, _, rfl, rfl, dn _ (k6.draw N D7 b7)⟩) fun z3 => ⟨_, rfl, _, _, rfl, rfl, up _ (k6.draw N D7 b7)⟩⟩⟩
        · rintro v H7 ⟨g3, rfl, g30, k7⟩
          exact ⟨g3, rfl, k7, g30⟩
      · rintro σ' H6 ⟨go, rfl, k6, go0⟩
        have tok : ∀ x ∈ T, NameOk x := fun x hx => nok x (g5.tn x hx)
        have fok : ∀ x ∈ F, NameOk x := fun x hx => nok x (g5.fn x hx)
        refine ⟨fun b H' => EK K d l th ev fr T F evs H H' ∧ (b = true → go < (p : Int) - ((T.map V.str).length : Int) ∧ F ≠ []), ?_, ?_⟩
        · refine ⟨_, rfl, _, rfl, _, _, rfl, rfl, _, rfl, ite2 (fun z => ?_) fun z => ⟨k6, fun y => nomatch y⟩⟩
          have zg : go < (p : Int) - ((T.map V.str).length : Int) := of_decide_eq_true z
          refine ⟨_, rfl, Nat.zero_le _, fun e ne => ?_⟩
          have sE := same_new (o := .lst []) ne
          have k7 := k6.same sE
          refine ⟨.list (F.map PyData.str), .list [], .lst (.inl (.inl k7.kf)) (DtAll.dp _ _ (DtAll.of_strs _)), .lst (.inl (.inl upd_same)) .nil, shaped_strs fok, shaped_strs (xs := []) (fun x hx => nomatch hx), _, rfl, k7, fun y => ⟨zg, fun z0 => ?_⟩⟩
          rw [eqv_nilS, z0] at y
          cases y
        · rintro b H7 ⟨k7, h7⟩
          obtain ⟨acc, e7, a7⟩ := k7.ke
          have al := DtAll.length a7
          rw [List.length_map] at al
          cases b with
          | true =>
            obtain ⟨zg, zF⟩ := h7 rfl
            rcases List.eq_nil_or_concat F with rfl | ⟨F', y, rfl⟩
            · exact absurd rfl zF
            · rw [List.concat_eq_append] at k7 g5 fok
              have lt : T.length < p := by omega
              have pop1 : ((F' ++ [y]).map V.str)[((F' ++ [y]).map V.str).length - 1]? = some (.str y) := by
                rw [List.map_append, List.length_append, List.getElem?_append_right (by rw [List.map_cons, List.map_nil, List.length_singleton]; omega)]
                rw [List.map_cons, List.map_nil, List.length_singleton, Nat.add_sub_cancel, Nat.sub_self]
                rfl
              have pop2 : ((F' ++ [y]).map V.str).dropLast = F'.map V.str := by
                rw [List.map_append]
                exact List.dropLast_concat
              refine iteT ⟨_, rfl, .inl ⟨rfl, _, .inl (.inl k7.kf)⟩, fr, _, _, rfl, rfl, k7.kf, pop1, ?_⟩
              rw [pop2]
              have k8 := k7.setF N F'
              have gn := g5.inn lt
              refine ⟨_, rfl, .inl ⟨rfl, _, .inl (.inl k8.kt)⟩, _, rfl, th, _, _, rfl, rfl, k8.kt, by rw [List.length_map]; exact small1000 (by omega), ?_⟩
              have eT : T.map V.str ++ [V.str y] = (T ++ [y]).map V.str := by rw [List.map_append]; rfl
              rw [eT]
              have k9 := k8.setT N (T ++ [y])
              obtain ⟨acc, e9, a9⟩ := k9.ke
              have al9 := DtAll.length a9
              rw [List.length_map] at al9
              refine ⟨_, rfl, .inl ⟨rfl, _, .inl (.inl e9)⟩, _, rfl, two, fun q nq => ?_⟩
              have sq := same_new (o := .tup [.str "in", .str y]) nq
              have kq := k9.same sq
              refine ⟨ev, acc, _, rfl, rfl, sq _ _ e9, small1000 (by omega), ?_⟩
              refine ⟨_, _, _, _, _, go, T ++ [y], F', evs ++ [(true, y)], rfl, kq.setE N (sq _ _ e9) (DtAll.mono (tex sq) _ _ a9) (ref_new upd_same (.cons (.str _) (.cons (.str _) .nil))), gn, go0, by rw [List.length_append, List.length_singleton]; omega⟩
          | false =>
            refine iteF ⟨_, rfl, Nat.zero_le _, fun e ne => ?_⟩
            have sE := same_new (o := .lst []) ne
            have k8 := k7.same sE
            refine ⟨.list (T.map PyData.str), .list [], .lst (.inl (.inl k8.kt)) (DtAll.dp _ _ (DtAll.of_strs _)), .lst (.inl (.inl upd_same)) .nil, shaped_strs tok, shaped_strs (xs := []) (fun x hx => nomatch hx), _, rfl, ?_⟩
            rw [eqv_nilS]
            generalize upd H7 e (.lst []) = H8 at k8
            by_cases hT : T = []
            · rw [decide_eq_true hT]
              exact iteF ⟨_, _, _, _, _, go, T, F, evs, rfl, k8, g5, go0, by omega⟩
            · rw [decide_eq_false hT]
              have tpos : 0 < T.length := List.length_pos_iff.mpr hT
              refine iteT ⟨_, rfl, th, _, rfl, .inl (.inl (.inl k8.kt)), _, _, rfl, rfl, ?_⟩
              have eL : ((T.map V.str).length : Int) - 1 = ((T.length - 1 : Nat) : Int) := by
                rw [List.length_map]
                omega
              refine ⟨_, rfl, _, _, rfl, _, rfl, _, rfl, _, _, rfl, rfl, d, l, _, rfl, k8.kd, (by show 1 ≤ ((T.map V.str).length : Int) - 1 + 1; omega), ?_, fun H9 r9 D9 b9 r90 r91 => ?_⟩
              · show ((T.map V.str).length : Int) - 1 + 1 < 1000000
                have : names.length ≤ 100 := nlen
                have : T.length ≤ 100 := by omega
                omega
              have k9 := k8.draw N D9 b9
              refine ⟨_, rfl, _, rfl, _, rfl, d, l, 3, rfl, k9.kd, by decide, by decide, fun HA rA DA bA rA0 rA1 => ⟨_, _, rfl, rfl, _, _, rfl, (by show 6 ≤ sizeLine; decide), fun q nq => ?_⟩⟩
              have kA := k9.draw N DA bA
              have hla : (T.map V.str).length = T.length := List.length_map ..
              obtain ⟨sn, rfl⟩ := nat_of sty0
              -- the place of the box
              have hz : ∃ z : Nat, z < T.length ∧ ([V.int 0, V.int 0, V.int (if ((T.map V.str).length : Int) - 1 < 1 then ((T.map V.str).length : Int) - 1 else 1), V.int r9, V.int (((T.map V.str).length : Int) - 1), V.int (if (0 : Int) > ((T.map V.str).length : Int) - 1 - rA then 0 else ((T.map V.str).length : Int) - 1 - rA)] : List V)[sn]? = some (.int (z : Int)) := by
                have r91' : r9 < (T.length : Int) := by
                  have : r9 < ((T.map V.str).length : Int) - 1 + 1 := r91
                  omega
                rw [hla]
                match sn, sty1 with
                | 0, _ => exact ⟨0, tpos, rfl⟩
                | 1, _ => exact ⟨0, tpos, rfl⟩
                | 2, _ =>
                  by_cases h1 : (T.length : Int) - 1 < 1
                  · exact ⟨0, tpos, by show some (V.int (if (T.length : Int) - 1 < 1 then (T.length : Int) - 1 else 1)) = _; rw [if_pos h1]; congr 2; omega⟩
                  · exact ⟨1, by omega, by show some (V.int (if (T.length : Int) - 1 < 1 then (T.length : Int) - 1 else 1)) = _; rw [if_neg h1]; rfl⟩
                | 3, _ => exact ⟨r9.toNat, by omega, by show some (V.int r9) = _; congr 2; omega⟩
                | 4, _ => exact ⟨T.length - 1, by omega, by show some (V.int ((T.length : Int) - 1)) = _; congr 2; omega⟩
                | 5, _ =>
                  by_cases h1 : (0 : Int) > (T.length : Int) - 1 - rA
                  · exact ⟨0, tpos, by show some (V.int (if (0 : Int) > (T.length : Int) - 1 - rA then 0 else (T.length : Int) - 1 - rA)) = _; rw [if_pos h1]; rfl⟩
                  · exact ⟨((T.length : Int) - 1 - rA).toNat, by omega, by show some (V.int (if (0 : Int) > (T.length : Int) - 1 - rA then 0 else (T.length : Int) - 1 - rA)) = _; rw [if_neg h1]; congr 2; omega⟩
                | n + 6, h => omega
              obtain ⟨z, hzT, hzv⟩ := hz
              have sB := same_new (o := .lst [V.int 0, V.int 0, V.int (if ((T.map V.str).length : Int) - 1 < 1 then ((T.map V.str).length : Int) - 1 else 1), V.int r9, V.int (((T.map V.str).length : Int) - 1), V.int (if (0 : Int) > ((T.map V.str).length : Int) - 1 - rA then 0 else ((T.map V.str).length : Int) - 1 - rA)]) nq
              have kB := kA.same sB
              refine ⟨_, rfl, q, _, (sn : Int), .int (z : Int), rfl, rfl, .inl (.inl upd_same), atI_nat hzv, ?_⟩
              have hx : T[z]? = some T[z] := List.getElem?_eq_getElem hzT
              have hxV : (T.map V.str)[z]? = some (.str T[z]) := by
                rw [List.getElem?_map, hx]
                rfl
              have er : (T.map V.str).eraseIdx z = (T.eraseIdx z).map V.str := by
                rw [List.eraseIdx_eq_take_drop_succ, List.eraseIdx_eq_take_drop_succ, List.map_append, List.map_take, List.map_drop]
              refine ⟨_, rfl, .inl ⟨rfl, _, .inl (.inl kB.kt)⟩, _, rfl, th, _, (z : Int), z, _, rfl, rfl, kB.kt, by omega, by omega, (ixN_seq (ixN_nat (by rw [hla]; exact hzT))).1, hxV, ?_⟩
              rw [er]
              have kC := kB.setT N (T.eraseIdx z)
              have gn := g5.out hx
              obtain ⟨acc, eC, aC⟩ := kC.ke
              have alC := DtAll.length aC
              rw [List.length_map] at alC
              refine ⟨_, rfl, .inl ⟨rfl, _, .inl (.inl eC)⟩, _, rfl, two, fun u nu => ?_⟩
              have su := same_new (o := .tup [.str "out", .str T[z]]) nu
              have kD := kC.same su
              refine ⟨ev, acc, _, rfl, rfl, su _ _ eC, small1000 (by omega), ?_⟩
              refine ⟨_, _, _, _, _, go, T.eraseIdx z, F, evs ++ [(false, T[z])], rfl, kD.setE N (su _ _ eC) (DtAll.mono (tex su) _ _ aC) (ref_new upd_same (.cons (.str _) (.cons (.str _) .nil))), gn, go0, by rw [List.length_append, List.length_singleton]; omega⟩
    · rintro σ H5 ⟨v11, v12, v13, v14, v15, go, T, F, evs, rfl, k5, g5, go0, el⟩
      obtain ⟨acc, e5, a5⟩ := k5.ke
      refine ⟨_, rfl, ev, acc, rfl, .inl ⟨.inl (.inl e5), fun q nq => ?_⟩⟩
      have s6 := same_new (o := .tup acc) nq
      have k6 := k5.same s6
      exact k _ q evs k6.kd k6.kb ⟨acc, .inl (.inl upd_same), DtAll.mono (tex s6) _ _ a5⟩ g5.tt g5.ev (by omega)
end
end K19
end

section
set_option Elab.async false
set_option linter.all false
set_option maxRecDepth 100000
set_option maxHeartbeats 8000000
/-! N5: the law's book, free places, who stays. -/
namespace K19
open PySem L2 K19M
section
variable {P : Program} {w : World} {K : PySem.W.Frag} {mg : Str → Option Value} {base : Heap} {Z : Za}
def sp_law_book (K : PySem.W.Frag) (Z : Za) : Sp := fun vs H Q _ => ∃ (t : Addr) (p : Nat) (evs : List (Bool × Str)), vs = [.ref t] ∧ TimAt K H t evs ∧ TT p [] [] evs ∧ evs.length ≤ 100 ∧
  ∀ H' d, Same H H' → H d = none → DK K H' d (tabD (tabOf evs)) → Q (.ref d) H'
theorem c_law_book {f : Addr} {fd : FuncData} (F : Fun K "_law_book" "_law_book" s_law_book f fd) (g : mg "_law_book" = some (.ref f)) (T : Bl mg)   : Cal P w K mg base 1 "_law_book" ["_law_events_here"] (sp_law_book K Z) := by
  refine ⟨f, fd, g, F.kp, F.binds (ps := ["_law_events_here"]) fun _ _ _ _ _ _ us hl => match us, hl with | [_], _ => rfl, F.ok sc_law_book (fun vs H Q E h => ?_) (fun cdv A outer s H vs Q E hr h => ?_)⟩
  · obtain ⟨t, p, evs, rfl, _⟩ := h
    rfl
  · obtain ⟨t, p, evs, rfl, ⟨xs, hx, hd⟩, tt, hl, k⟩ := h
    have hu := hu_of hr
    have hlen := DtAll.length hd
    rw [List.length_map] at hlen
    refine ⟨_, (pss_cons (ps_set (i := 1) sc_law_book.nd rfl (.inl rfl) pe_dnewK)
      (pss_cons (ps_for PassesOwn.never rfl (pi_range1 (by rfl) T.b_range (pa_cons (pe_callB call_len_seq (by rfl) T.b_len PySem.boot_len (pa_cons (pv 0) pa_nil)) pa_nil)) (pg_name (i := 2) sc_law_book.nd rfl (.inl rfl))
        (pss_cons (ps_asg (pe_ix ix_tup (pv 0) (pv 2) (fun _ _ => rfl)) (pg_tup rfl (pgs_cons (pg_name (i := 3) sc_law_book.nd rfl (.inl rfl)) (pgs_cons (pg_name (i := 4) sc_law_book.nd rfl (.inl rfl)) pgs_nil))))
        (pss_one (ps_if (pt_cmpR op_eq (pv 3) pe_str (nomark _))
          (pss_one (ps_dput hu (pv 1) (pv 4) (pe_tup (pa_cons (pe_op op_add (pv 2) pe_int) (pa_cons (pe_callB call_len_seq (by rfl) T.b_len PySem.boot_len (pa_cons (pv 0) pa_nil)) pa_nil))) rfl))
          (pss_one (ps_dput hu (pv 1) (pv 4) (pe_tup (pa_cons (pe_ix ix_tup (pe_dget hu (pv 1) (pv 4) (fun _ _ => rfl)) pe_int (fun _ _ => rfl)) (pa_cons (pv 2) pa_nil))) rfl))))))
      (pss_one (ps_ret (pv 1))))), ?_⟩
    refine fun d nd => ?_
    have s1 := same_new (o := .dK []) nd
    refine ⟨_, rfl, t, _, rfl, .inr (tex s1 _ _ hx), (xs.length : Int), rfl, by omega, by omega, for_it walk_range (fun i σ H2 => ∃ v2 v3 v4 B, σ = [some (.ref t), some (.ref d), v2, v3, v4] ∧ Same H H2 ∧ DK K H2 d (tabD (tabGo evs.length 0 [] (evs.take i))) ∧ (tabGo evs.length 0 [] (evs.take i)).length ≤ i ∧
      TT p ((tabGo evs.length 0 [] (evs.take i)).map (·.1)) B (evs.drop i) ∧ ∀ x ∈ B, x ∈ (tabGo evs.length 0 [] (evs.take i)).map (·.1)) ⟨_, _, _, [], rfl, s1, .nil upd_same, Nat.le_refl _, tt, fun x hx => nomatch hx⟩ (fun i σ H2 _ _ => trivial) ?_ ?_⟩
    · rintro i x σ H2 H3 hi ⟨v2, v3, v4, B, rfl, s2, D, dl, tt, bc⟩ ⟨eH, hxi⟩
      have eH := eH.symm
      subst eH
      obtain rfl : x = V.int (i : Int) := hxi.trans (congrArg V.int (Int.zero_add _))
      have hi' : i < xs.length := by
        have : i < (xs.length : Int).toNat := hi
        omega
      have hxe : xs[i]? = some xs[i] := List.getElem?_eq_getElem hi'
      obtain ⟨b, hb, dt⟩ := DtAll.get hd hxe
      rw [List.getElem?_map] at hb
      obtain ⟨e, he, rfl⟩ := Option.map_eq_some_iff.mp hb
      obtain ⟨tt', et, sq⟩ := ev_inv dt
      have hil := (List.getElem?_eq_some_iff.mp he).1
      have hdrop : evs.drop i = e :: evs.drop (i + 1) := by
        rw [List.drop_eq_getElem_cons hil, (List.getElem?_eq_some_iff.mp he).2]
      rw [hdrop] at tt
      have en := tab_next he evs.length
      generalize tabGo evs.length 0 [] (evs.take i) = tab at D dl tt bc en
      refine ⟨_, rfl, _, rfl, t, _, (i : Int), _, rfl, rfl, tex s2 _ _ hx, atI_nat (by rw [hxe, et]), tt', _, rfl, tex s2 _ _ sq, rfl, _, _, rfl, _, _, rfl, rfl, ?_⟩
      refine ⟨_, rfl, rfl, _, rfl, ?_⟩
      obtain ⟨eb, ex⟩ := e
      cases eb with
      | true =>
        obtain ⟨⟨u1, u2⟩, u3⟩ := tt
        rw [show tabStep evs.length i tab (true, ex) = aput tab ex (i + 1, evs.length) from rfl] at en
        refine ite2 (fun _ => ?_) fun z => (z (decide_eq_true rfl)).elim
        refine ⟨_, rfl, _, _, rfl, rfl, _, rfl, t, _, rfl, .inr (tex s2 _ _ hx), two, fun r nr => ?_⟩
        have s4 := same_new (o := .tup [.int ((i : Int) + 1), .int (xs.length : Int)]) nr
        obtain ⟨o, p1, p2, p3⟩ := (D.same s4).dput ex (v := .ref r) (b := .tuple [.int ((i + 1 : Nat) : Int), .int (evs.length : Int)]) (by rw [← hlen]; exact pair_new) (by rw [tabD_len]; omega)
        refine ⟨_, rfl, _, rfl, d, _, rfl, p1, ?_⟩
        rw [en]
        refine ⟨_, _, _, B ++ [ex], rfl, fun b o' ob => ?_, ?_, Nat.le_trans (aput_len _ _ _) (by omega), ?_, fun y hy => ?_⟩
        · rw [upd_ne (ne_of_none ob nd)]
          exact s4 _ _ (s2 _ _ ob)
        · rw [tabD_put]
          exact p2
        · rw [aput_keys, if_neg u1]
          exact u3
        · rw [aput_keys, if_neg u1]
          rcases List.mem_append.mp hy with z | z
          · exact List.mem_append_left _ (bc y z)
          · exact List.mem_append_right _ z
      | false =>
        obtain ⟨u1, u3⟩ := tt
        have u1 : ex ∈ B := u1
        have hk := bc ex u1
        obtain ⟨⟨c, l⟩, hcl⟩ := Option.isSome_iff_exists.mp (aget_isSome.mpr hk)
        rw [show tabStep evs.length i tab (false, ex) = aput tab ex (c, i) by
          show aput tab ex (((aget tab ex).getD (0, 0)).1, i) = _
          rw [hcl]
          rfl] at en
        refine ite2 (fun z => absurd (of_decide_eq_true z) wd_2) fun _ => ?_
        obtain ⟨r1, g1, _, g2⟩ := D.dget ex
        obtain ⟨v, rfl, dv⟩ := g2 (.tuple [.int (c : Int), .int (l : Int)]) (by rw [tabD_get, hcl]; rfl)
        obtain ⟨ta, rfl, sa⟩ := pair_inv dv
        refine ⟨_, rfl, _, rfl, d, _, rfl, g1, ta, _, 0, _, rfl, rfl, sa, atI_nat (j := 0) rfl, _, rfl, two, fun r nr => ?_⟩
        have s4 := same_new (o := .tup [.int (c : Int), .int (i : Int)]) nr
        obtain ⟨o, p1, p2, p3⟩ := (D.same s4).dput ex (v := .ref r) (b := .tuple [.int (c : Int), .int (i : Int)]) pair_new (by rw [tabD_len]; omega)
        refine ⟨_, rfl, _, rfl, d, _, rfl, p1, ?_⟩
        rw [en]
        refine ⟨_, _, _, B.erase ex, rfl, fun b o' ob => ?_, ?_, Nat.le_trans (aput_len _ _ _) (by omega), ?_, fun y hy => ?_⟩
        · rw [upd_ne (ne_of_none ob nd)]
          exact s4 _ _ (s2 _ _ ob)
        · rw [tabD_put]
          exact p2
        · rw [aput_keys, if_pos hk]
          exact u3
        · rw [aput_keys, if_pos hk]
          exact bc y (List.mem_of_mem_erase hy)
    · rintro σ H2 ⟨v2, v3, v4, B, rfl, s2, D, _⟩
      have e0 : (xs.length : Int).toNat = evs.length := by omega
      rw [e0, List.take_length] at D
      exact ⟨_, rfl, k H2 d s2 nd D⟩
def sp_law_free (K : PySem.W.Frag) (Z : Za) : Sp := fun vs H Q _ => ∃ (a t : Addr) (h : List Nat) (evs : List (Bool × Str)), vs = [.ref a, .ref t] ∧ SqT K H a (hV h) ∧ TimAt K H t evs ∧ TT h.sum [] [] evs ∧ evs.length ≤ 100 ∧
  ∀ H' p, Same H H' → H' p = some (.lst (hV (cnts h.sum evs))) → Q (.ref p) H'
theorem c_law_free {f : Addr} {fd : FuncData} (F : Fun K "_law_free" "_law_free" s_law_free f fd) (g : mg "_law_free" = some (.ref f)) (T : Bl mg)   : Cal P w K mg base 1 "_law_free" ["_law_heights", "_law_events_here"] (sp_law_free K Z) := by
  refine ⟨f, fd, g, F.kp, F.binds (ps := ["_law_heights", "_law_events_here"]) fun _ _ _ _ _ _ us hl => match us, hl with | [_, _], _ => rfl, F.ok sc_law_free (fun vs H Q E h => ?_) (fun cdv A outer s H vs Q E hr h => ?_)⟩
  · obtain ⟨a, t, h, evs, rfl, _⟩ := h
    rfl
  · obtain ⟨a, t, h, evs, rfl, ha, ⟨xs, hx, hd⟩, tt0, len, k⟩ := h
    refine ⟨_, (pss_cons (ps_set (i := 2) sc_law_free.nd rfl (.inl rfl) (pe_lst (pa_cons (pe_callB (cr_sumT rfl) (by rfl) T.b_sum (by decide +kernel) (pa_cons (pv 0) pa_nil)) pa_nil)))
      (pss_cons (ps_for PassesOwn.never rfl (pi_tup (pv 1)) (pg_tup rfl (pgs_cons (pg_name (i := 3) sc_law_free.nd rfl (.inl rfl)) (pgs_cons (pg_name (i := 4) sc_law_free.nd rfl (.inl rfl)) pgs_nil)))
        (pss_one (ps_expr (pe_bm PySem.F.plainAttrs_list PySem.F.slot_list_append PySem.F.type_list_append mt_append (pv 2) (pa_cons (pe_ifExp (pt_cmpR op_eq (pv 3) pe_str (nomark _)) (pe_op op_sub (pe_ix ix_list (pv 2) (pe_un un_neg pe_int) (fun _ _ => rfl)) pe_int) (pe_op op_add (pe_ix ix_list (pv 2) (pe_un un_neg pe_int) (fun _ _ => rfl)) pe_int)) pa_nil)))))
      (pss_one (ps_ret (pv 2))))), ?_⟩
    refine ⟨_, rfl, a, zs h, rfl, ha, ?_⟩
    rw [zs_sum]
    refine ⟨(by show 1 ≤ sizeLine; decide), fun c nc => ?_⟩
    have s2 := same_new (o := .lst [.int ((h.sum : Nat) : Int)]) nc
    have hlen := DtAll.length hd
    rw [List.length_map] at hlen
    refine ⟨_, rfl, t, rfl, ⟨_, tex s2 _ _ hx⟩, for_it walk_tup (fun i σ H2 => ∃ v3 v4 C B, σ = [some (.ref a), some (.ref t), some (.ref c), v3, v4] ∧ Same H H2 ∧ H2 c = some (.lst (hV (cnts h.sum (evs.take i)))) ∧
      TT h.sum C B (evs.drop i) ∧ (cnts h.sum (evs.take i))[i]? = some (h.sum - B.length) ∧ B.length ≤ h.sum) ⟨_, _, [], [], rfl, s2, upd_same, tt0, rfl, Nat.zero_le _⟩ (fun i σ H2 _ ⟨_, _, _, _, _, z, _⟩ => tex z _ _ hx) ?_ ?_⟩
    · rintro i x σ H2 H3 hi ⟨v3, v4, C, B, rfl, s3, hc, tt, cl, bl⟩ ⟨rfl, hxi⟩
      obtain ⟨b, hb, dt⟩ := DtAll.get hd hxi
      rw [List.getElem?_map] at hb
      obtain ⟨e, he, rfl⟩ := Option.map_eq_some_iff.mp hb
      obtain ⟨tt', rfl, sq⟩ := ev_inv dt
      obtain ⟨C', B', n1, n2, n3, n4⟩ := cnt_next he tt cl bl
      have hil := (List.getElem?_eq_some_iff.mp he).1
      have clen : (cnts h.sum (evs.take i)).length = i + 1 := by
        rw [cnts_len, List.length_take]
        omega
      have lastV : atI (hV (cnts h.sum (evs.take i))) (-1) = some (.int ((h.sum - B.length : Nat) : Int)) := at_neg1 (by rw [hV_len]; exact clen) (hV_at cl)
      have hc' : SqL K H3 c (hV (cnts h.sum (evs.take i))) := .inl (.inl hc)
      refine ⟨tt', _, rfl, tex s3 _ _ sq, rfl, _, _, rfl, _, _, rfl, rfl, ?_⟩
      refine ⟨_, rfl, .inl ⟨rfl, _, hc'⟩, _, rfl, rfl, _, rfl, ?_⟩
      have fin : ∀ z : Int, z = ((h.sum - B'.length : Nat) : Int) → ∃ l ys y', (V.ref c = V.ref l ∧ [V.int z] = [y'] ∧ H3 l = some (.lst ys) ∧ ys.length < sizeLine ∧
          (∃ v3 v4 C B, ([some (V.ref a), some (.ref t), some (.ref c), some (.str (wd e.1)), some (.str e.2)] : List (Option V)) = [some (.ref a), some (.ref t), some (.ref c), v3, v4] ∧ Same H (upd H3 l (.lst (ys ++ [y']))) ∧ (upd H3 l (.lst (ys ++ [y']))) c = some (.lst (hV (cnts h.sum (evs.take (i + 1))))) ∧
      TT h.sum C B (evs.drop (i + 1)) ∧ (cnts h.sum (evs.take (i + 1)))[i + 1]? = some (h.sum - B.length) ∧ B.length ≤ h.sum)) := by
        rintro z rfl
        refine ⟨c, _, _, rfl, rfl, hc, ?_, _, _, C', B', rfl, fun b o ob => ?_, ?_, n1, ?_, n3⟩
        · rw [hV_len, clen]
          exact small1000 (by omega)
        · rw [upd_ne (ne_of_none ob nc)]
          exact s3 _ _ ob
        · rw [upd_same, n2, hV_app]
          rfl
        · rw [n2, List.getElem?_append_right (by omega), clen, Nat.sub_self]
          rfl
      refine ite2 (fun q => ?_) fun q => ?_
      · have eb : e.1 = true := (wd_in _).1.mp (V.str.inj (of_decide_eq_true q))
        refine ⟨_, rfl, 1, rfl, c, _, -1, _, rfl, rfl, hc', lastV, _, _, rfl, rfl, ?_⟩
        exact fin _ (by rw [n4, if_pos eb])
      · have eb : ¬ e.1 = true := fun z => q (decide_eq_true (congrArg V.str ((wd_in _).1.mpr z)))
        refine ⟨_, rfl, 1, rfl, c, _, -1, _, rfl, rfl, hc', lastV, _, _, rfl, rfl, ?_⟩
        exact fin _ (by rw [n4, if_neg eb])
    · rintro σ H2 ⟨v3, v4, C, B, rfl, s3, hc, _⟩
      rw [hlen, List.take_length] at hc
      exact ⟨_, rfl, k H2 c s3 hc⟩
def sp_law_stay (K : PySem.W.Frag) (Z : Za) : Sp := fun vs H Q _ => ∃ (d r : Addr) (tab : List (Str × Nat × Nat)) (a b : Nat), vs = [.ref d, .ref r] ∧ DK K H d (tabD tab) ∧ SqT K H r [.int (a : Int), .int (b : Int)] ∧ (tab.map (·.1)).Nodup ∧ tab.length ≤ 100 ∧
  ∀ H' p, Same H H' → SqT K H' p ((sortT (stayL tab a b)).map V.str) → Q (.ref p) H'
theorem alS (a b : Str) : PySem.W.alike (.str a) (.str b) = true := by simp only [PySem.W.alike]
theorem c_law_stay {f : Addr} {fd : FuncData} (F : Fun K "_law_stay" "_law_stay" s_law_stay f fd) (g : mg "_law_stay" = some (.ref f)) (T : Bl mg)   : Cal P w K mg base 2 "_law_stay" ["_law_book_here", "_law_stretch"] (sp_law_stay K Z) := by
  refine ⟨f, fd, g, F.kp, F.binds (ps := ["_law_book_here", "_law_stretch"]) fun _ _ _ _ _ _ us hl => match us, hl with | [_, _], _ => rfl, F.ok sc_law_stay (fun vs H Q E h => ?_) (fun cdv A outer s H vs Q E hr h => ?_)⟩
  · obtain ⟨d, r, tab, a, b, rfl, _⟩ := h
    rfl
  · obtain ⟨d, r, tab, a, b, rfl, ⟨l', d1, d2, d3⟩, hr', nd, hl, k⟩ := h
    have hu := hu_of hr
    refine ⟨_, (pss_one (ps_ret (pe_callTy call_tuple_of (by rfl) T.b_tuple (by decide +kernel) (pa_cons (pe_callB (cr_sortedDt hr.units) (by rfl) T.b_sorted (by decide +kernel) (pa_cons (pe_lock (pe_lc (g := (gName 2)) (own := [("_law_box", 2)]) rfl sc_law_stay.nd (pi_keys (pv 0)) (blkOk_by (own := [("_law_box", 2)]) (N := n_law_stay) (sc := defScope s_law_stay) (by decide +kernel)) (fun _ _ _ _ _ => (pg_name (i := 2) sc_law_stay.nd rfl (.inl rfl) (.inr rfl))) (fun _ _ _ _ _ => (pts_one (PW.pt (pw_and (pt_cmpR op_le (pe_ix (ixK_tup (K := K) rfl) (pe_dget hu (pv 0) (pv 2) (fun _ _ => rfl)) pe_int (fun _ _ => rfl)) (pe_ix (ixK_tup (K := K) rfl) (pv 1) pe_int (fun _ _ => rfl)) (nomark _)) (pw_and1 (pt_cmpR op_le (pe_ix (ixK_tup (K := K) rfl) (pv 1) pe_int (fun _ _ => rfl)) (pe_ix (ixK_tup (K := K) rfl) (pe_dget hu (pv 0) (pv 2) (fun _ _ => rfl)) pe_int (fun _ _ => rfl)) (nomark _))))))) (fun _ _ _ _ _ => (pv 2)))) pa_nil)) pa_nil)))), ?_⟩
    refine ⟨d, _, d1, trivial, fun od => ?_⟩
    have b0 : But d H (upd H d (.frz od (.dK (tk l')))) := lock_but
    refine ⟨_, rfl, d, od, rfl, .inl ⟨_, upd_same, fun D nD => ?_⟩⟩
    have hDd : D ≠ d := fun z => by
      rw [z, upd_same] at nD
      cases nD
    have llen : l'.length = tab.length := by
      have := congrArg List.length d2
      rwa [List.length_map, List.length_map, tabD_len] at this
    refine lc_it walk_keys (fun i H4 => But d H H4 ∧ H4 d = some (.frz od (.dK (tk l'))) ∧ H4 D = some (.lst ((((tab.take i).filter fun e => decide (e.2.1 ≤ a) && decide (b ≤ e.2.2)).map (·.1)).map V.str))) ⟨b0.same (same_new nD), by rw [upd_ne hDd.symm]; exact upd_same, upd_same⟩ (fun i H4 _ z => z.2.1) ?_ ?_
    · rintro i x H4 H5 hi ⟨b4, f4, a4⟩ ⟨eH, key, v, hk, hxk⟩
      have eH := eH.symm
      subst eH
      obtain ⟨⟨y', v'⟩, hy, ey⟩ := Option.map_eq_some_iff.mp (show ((l'[i]?).map fun e => ((Sum.inr e.1 : Key), e.2)) = some (key, v) by rw [← List.getElem?_map]; exact hk)
      obtain ⟨rfl, rfl⟩ := Prod.mk.inj ey
      obtain rfl : x = V.str y' := hxk
      obtain ⟨bb, hb, dt⟩ := dk_at d2 d3 hy
      unfold tabD at hb
      rw [List.getElem?_map] at hb
      obtain ⟨⟨y2, c, l⟩, hb', eb⟩ := Option.map_eq_some_iff.mp hb
      obtain ⟨rfl, rfl⟩ := Prod.mk.inj eb
      obtain ⟨ta, rfl, sa⟩ := pair_inv dt
      have tA : TupEx K H H4 := b4.texD d1
      have sa' := tA _ _ sa
      have sr' := tA _ _ hr'
      have g : DGet H4 d (.str y2) (some (.ref ta)) := by
        refine .inl ⟨tk l', Sum.inr y2, .inr ⟨od, f4⟩, rfl, ?_⟩
        rw [valV_tk]
        refine (aget_of (by rw [d2]; unfold tabD; rw [List.map_map]; exact nd) (List.mem_of_getElem? hy)).symm
      have lenb : (((tab.take i).filter fun e => decide (e.2.1 ≤ a) && decide (b ≤ e.2.2)).map (·.1)).length ≤ 100 := by
        rw [List.length_map]
        refine Nat.le_trans (List.length_filter_le _ _) ?_
        rw [List.length_take]
        omega
      have no : ∀ hyes : ¬ (c ≤ a ∧ b ≤ l), But d H H4 ∧ H4 d = some (.frz od (.dK (tk l'))) ∧ H4 D = some (.lst ((((tab.take (i + 1)).filter fun e => decide (e.2.1 ≤ a) && decide (b ≤ e.2.2)).map (·.1)).map V.str)) := fun hyes => by
        refine ⟨b4, f4, ?_⟩
        rw [fm_take _ _ hb', if_neg (fun z => hyes (by
          obtain ⟨z1, z2⟩ := Bool.and_eq_true_iff.mp z
          exact ⟨of_decide_eq_true z1, of_decide_eq_true z2⟩)), List.append_nil]
        exact a4
      refine ⟨rfl, _, rfl, _, rfl, d, _, rfl, g, ta, _, 0, _, rfl, rfl, sa', atI_nat (j := 0) rfl, _, rfl, r, _, 0, _, rfl, rfl, sr', atI_nat (j := 0) rfl, _, _, rfl, rfl, _, rfl, ite2 (fun q1 => ?_) fun q1 => ?_⟩
      · refine ⟨_, rfl, r, _, 1, _, rfl, rfl, sr', atI_nat (j := 1) rfl, _, rfl, _, rfl, d, _, rfl, g, ta, _, 1, _, rfl, rfl, sa', atI_nat (j := 1) rfl, _, _, rfl, rfl, _, rfl, ite2 (fun q2 => ?_) fun q2 => ?_⟩
        · refine ⟨_, rfl, _, a4, by rw [List.length_map]; exact small1000 (by omega), fun b' o hb hn => ?_, ?_, ?_⟩
          · rw [upd_ne (fun z => by rw [z] at hb; rw [upd_ne hDd] at nD; rw [nD] at hb; cases hb)]
            exact b4 b' o hb hn
          · rw [upd_ne hDd.symm]
            exact f4
          · have z1 : (c : Int) ≤ (a : Int) := of_decide_eq_true q1
            have z2 : (b : Int) ≤ (l : Int) := of_decide_eq_true q2
            rw [upd_same, fm_take _ _ hb', if_pos (Bool.and_eq_true_iff.mpr ⟨decide_eq_true (by show c ≤ a; omega), decide_eq_true (by show b ≤ l; omega)⟩), List.map_append]
            rfl
        · exact no fun z => q2 (decide_eq_true (show (b : Int) ≤ (l : Int) by omega))
      · exact iteF (no fun z => q1 (decide_eq_true (show (c : Int) ≤ (a : Int) by omega)))
    · rintro H4 ⟨b4, f4, a4⟩
      have lens : (stayL tab a b).length ≤ 100 := by
        unfold stayL
        rw [List.length_map]
        exact Nat.le_trans (List.length_filter_le _ _) hl
      have aD : (upd H4 d (.dK (tk l'))) D = some (.lst ((stayL tab a b).map V.str)) := by
        rw [upd_ne hDd, a4, tk_len, llen, List.take_length]
        rfl
      refine ⟨f4, D, _, Str, stayL tab a b, PyData.str, rfl, .inl (.inl aD), DtAll.of_strs _, PySem.W.AllAlike.of alS, PySem.W.Sortable.others (fun b => ⟨(fun z => nomatch z), fun _ z => nomatch z⟩), by omega, (fun b _ => Nat.zero_le _), fun ys p5 hys n5 => ?_⟩
      have ey := DtAll.strs hys
      subst ey
      have s5 := same_new (o := .lst (((stayL tab a b).mergeSort (PySem.W.dataLe false PyData.str)).map V.str)) n5
      refine ⟨p5, _, rfl, .inl ⟨.inl (.inl upd_same), fun q nq => ?_⟩⟩
      exact k _ q ((unlock d1 b4).trans (s5.trans (same_new nq))) (.inl (.inl upd_same))
end
end K19
end

section
set_option Elab.async false
set_option linter.all false
set_option maxRecDepth 100000
set_option maxHeartbeats 8000000
/-! N6: all standings that moves reach. -/
namespace K19
open PySem L2 K19M
/-! ### the plain side -/
theorem addAll_snoc {α : Type} [DecidableEq α] (acc new : List α) (Y : α) : addAll acc (new ++ [Y]) = if Y ∈ addAll acc new then addAll acc new else addAll acc new ++ [Y] := by
  unfold addAll
  rw [List.foldl_append]
  rfl
theorem addAll_app {α : Type} [DecidableEq α] (acc a b : List α) : addAll acc (a ++ b) = addAll (addAll acc a) b := by
  unfold addAll
  rw [List.foldl_append]
theorem addAll_get {α : Type} [DecidableEq α] : ∀ (new acc : List α) {i : Nat} {X : α}, acc[i]? = some X → (addAll acc new)[i]? = some X
  | [], acc, i, X, h => h
  | Y :: new, acc, i, X, h => by
    show (addAll (if Y ∈ acc then acc else acc ++ [Y]) new)[i]? = some X
    refine addAll_get new _ ?_
    split
    · exact h
    · rw [List.getElem?_append_left (List.getElem?_eq_some_iff.mp h).1]
      exact h
def cellM (h : List Nat) (X : Sd Str) (i j : Nat) : Option (Sd Str) := if j ≠ i ∧ (X.getD j []).length < h.getD j 0 then some (moveOf X i j) else none
def chunkM (h : List Nat) (X : Sd Str) (i : Nat) : List (Sd Str) := if (X.getD i []).isEmpty then [] else (List.range h.length).filterMap (cellM h X i)
theorem nexts_eq (h : List Nat) (X : Sd Str) : nexts h X = (List.range h.length).flatMap (chunkM h X) := rfl
theorem range_take {n i : Nat} (hi : i ≤ n) : (List.range n).take i = List.range i := by
  rw [List.take_range, Nat.min_eq_left hi]
theorem mem_cellM {h : List Nat} {X : Sd Str} {i j : Nat} {Y : Sd Str} (hi : i < h.length) (hj : j < h.length) (he : (X.getD i []).isEmpty = false) (hc : cellM h X i j = some Y) : Y ∈ nexts h X := by
  rw [nexts_eq]
  refine List.mem_flatMap.mpr ⟨i, List.mem_range.mpr hi, ?_⟩
  unfold chunkM
  rw [if_neg (by rw [he]; exact Bool.false_ne_true)]
  exact List.mem_filterMap.mpr ⟨j, List.mem_range.mpr hj, hc⟩
theorem spread_done {h : List Nat} {n i : Nat} {f : List (Sd Str)} (hl : f.length ≤ i) : spreadGo h n i f = f := by
  cases n with
  | zero => rfl
  | succ n =>
    unfold spreadGo
    rw [List.getElem?_eq_none hl]
theorem spread_step {h : List Nat} {n i : Nat} {f : List (Sd Str)} {X : Sd Str} (hx : f[i]? = some X) : spreadGo h (n + 1) i f = spreadGo h n (i + 1) (addAll f (nexts h X)) := by
  conv => lhs; unfold spreadGo
  rw [hx]
def sD (st : List Str) : PyData := .tuple (st.map .str)
theorem stD_eq (X : Sd Str) : stD X = .tuple (X.map sD) := rfl
theorem move_sD (X : Sd Str) (i j : Nat) : (moveOf X i j).map sD = ((X.map sD).set j (sD (X.getD j [] ++ lastL (X.getD i [])))).set i (sD (X.getD i []).dropLast) := by
  unfold moveOf
  rw [List.map_set, List.map_set]
theorem eqvT_nil (xs : List Str) : PyData.eqv (.tuple (xs.map PyData.str)) (.tuple []) = decide (xs = []) := by
  cases xs with
  | nil => rfl
  | cons a xs => rfl
theorem shapedT {xs : List Str} (h : ∀ x ∈ xs, NameOk x) : SeqAt.shaped (.tuple (xs.map PyData.str)) = true := by
  show (PyData.canLay0 (.tuple (xs.map PyData.str)) && decide (PyData.depth (.tuple (xs.map PyData.str)) ≤ 64)) = true
  simp only [PyData.canLay0, PyData.depth, canLay_strs xs h, depth_strs xs]
  decide
/-! ### in the heap -/
section
variable {K : PySem.W.Frag} {H H' H2 : Hp} {P : Program} {w : World}
theorem catA_any {a b : Addr} {xs ys : List V} (ha : SqT K H a xs) (hb : SqT K H b ys) (hl : xs.length + ys.length ≤ sizeLine) {Q : VK} (k : ∀ p H', Same H H' → SqT K H' p (xs ++ ys) → Q (.ref p) H') : rCatA K (.ref a) (.ref b) H Q := by
  refine ⟨a, b, xs, ys, rfl, rfl, ha, hb, hl, fun e => ?_, fun _ e => ?_, fun _ _ p np => k p _ (same_new np) (.inl (.inl upd_same))⟩
  · subst e
    exact k b H same_refl hb
  · subst e
    exact k a H same_refl (by rw [List.append_nil]; exact ha)
theorem sIx_m1 (n d : Nat) : HT.sIx n d (some (-1)) = n - 1 := by
  show (if (-1 : Int) < 0 then ((-1 : Int) + (n : Int)).toNat else min (-1 : Int).toNat n) = n - 1
  rw [if_pos (by decide)]
  omega
theorem slA_last {a : Addr} {xs : List V} (ha : SqT K H a xs) {Q : VK} (k : ∀ p H', Same H H' → SqT K H' p (xs.drop (xs.length - 1)) → Q (.ref p) H') : rSlA K (.ref a) (some (-1)) none H Q := by
  have e0 : HT.sIx xs.length xs.length none = xs.length := rfl
  refine ⟨a, xs, rfl, ha, fun z => ?_, fun z p np => k p _ (same_new np) (.inl (.inl ?_))⟩
  · rw [sIx_m1] at z
    refine k a H same_refl ?_
    rw [z.1, List.drop_zero]
    exact ha
  · rw [upd_same]
    unfold cutV
    rw [sIx_m1, e0, List.take_of_length_le (by rw [List.length_drop]; exact Nat.le_refl _)]
theorem slA_lastN {σ : L2.St} {a : Addr} {xs : List V} (ha : SqT K H a xs) {Q : VK} (k : ∀ p H', Same H H' → SqT K H' p (xs.drop (xs.length - 1)) → Q (.ref p) H') : tNoPart σ H (fun u H3 => rSlA K (.ref a) (some (-1)) u H3 Q) := slA_last ha k
theorem slA_init {a : Addr} {xs : List V} (ha : SqT K H a xs) {Q : VK} (k : ∀ p H', Same H H' → SqT K H' p xs.dropLast → Q (.ref p) H') : rSlA K (.ref a) none (some (-1)) H Q := by
  have e0 : HT.sIx xs.length 0 none = 0 := rfl
  refine ⟨a, xs, rfl, ha, fun z => ?_, fun z p np => k p _ (same_new np) (.inl (.inl ?_))⟩
  · rw [sIx_m1] at z
    have : xs = [] := List.eq_nil_of_length_eq_zero (by omega)
    subst this
    exact k a H same_refl ha
  · rw [upd_same]
    unfold cutV
    rw [sIx_m1, e0, Nat.sub_zero, List.drop_zero, List.dropLast_eq_take]
/-- the standings found, and the dict of those seen -/
def SI (K : PySem.W.Frag) (P : Program) (w : World) (H : Hp) (fo d : Addr) (f : List (Sd Str)) : Prop :=
  ∃ xs L, H fo = some (.lst xs) ∧ DtAll K H xs (f.map stD) ∧ H d = some (SeenO P w d L) ∧ KeysOk K H L ∧ L.map (·.1) = f
theorem KeysOk.mono {L : SeenL} (k : KeysOk K H L) (m : TupEx K H H') : KeysOk K H' L := fun p hp => Dt.mono m _ _ (k p hp)
theorem SI.same {fo d : Addr} {f : List (Sd Str)} (s : SI K P w H fo d f) (m : Same H H') : SI K P w H' fo d f := by
  obtain ⟨xs, L, h1, h2, h3, h4, h5⟩ := s
  exact ⟨xs, L, m _ _ h1, DtAll.mono (tex m) _ _ h2, m _ _ h3, h4.mono (tex m), h5⟩
theorem st_at {xs : List V} {f : List (Sd Str)} {i : Nat} {X : Sd Str} (h : DtAll K H xs (f.map stD)) (hx : f[i]? = some X) : ∃ a vs, xs[i]? = some (.ref a) ∧ SqT K H a vs ∧ DtAll K H vs (X.map sD) := by
  obtain ⟨v, h1, h2⟩ := DtAll.get' h (i := i) (d := stD X) (by rw [List.getElem?_map, hx]; rfl)
  obtain ⟨a, vs, rfl, h3, h4⟩ := Dt.tup_inv h2
  exact ⟨a, vs, h1, h3, h4⟩
theorem sd_at {vs : List V} {X : Sd Str} {i : Nat} (h : DtAll K H vs (X.map sD)) (hi : i < X.length) : ∃ a, vs[i]? = some (.ref a) ∧ SqT K H a ((X.getD i []).map V.str) := by
  have hx : X[i]? = some (X.getD i []) := by
    rw [List.getD_eq_getElem?_getD, List.getElem?_eq_getElem hi]
    rfl
  obtain ⟨v, h1, h2⟩ := DtAll.get' h (i := i) (d := sD (X.getD i [])) (by rw [List.getElem?_map, hx]; rfl)
  obtain ⟨a, ws, rfl, h3, h4⟩ := Dt.tup_inv h2
  rw [DtAll.strs h4] at h3
  exact ⟨a, h1, h3⟩
theorem sd_new {p : Addr} {st : List Str} (h : SqT K H p (st.map V.str)) : Dt K H (.ref p) (sD st) := .tup h (DtAll.of_strs st)
theorem tupEx_ext {d : Addr} {o : HO} {φ : Heap → Prop} (h : H d = some (.ext φ)) : TupEx K H (upd H d o) := tupEx_at h (fun _ z => nomatch z) fun _ _ z => nomatch z
end
section
variable {P : Program} {w : World} {K : PySem.W.Frag} {mg : Str → Option Value} {base : Heap} {Z : Za}
def sp_law_spread (K : PySem.W.Frag) (Z : Za) : Sp := fun vs H Q _ => ∃ (a c : Addr) (xs : List V) (h : List Nat) (A : List (Sd Str)) (B : List Str), vs = [.ref a, .ref c] ∧ SqT K H a (hV h) ∧ h ∈ menu ∧ H c = some (.lst xs) ∧ DtAll K H xs (A.map stD) ∧ A.Nodup ∧ B.Nodup ∧ B.length ≤ 5 ∧
  (∀ x ∈ B, NameOk x) ∧ (∀ Z ∈ A, Sta h B Z) ∧ ∀ H' p ys, Same H H' → H' p = some (.lst ys) → DtAll K H' ys ((spread h A).map stD) → Q (.ref p) H'
theorem c_law_spread {f : Addr} {fd : FuncData} (F : Fun K "_law_spread" "_law_spread" s_law_spread f fd) (g : mg "_law_spread" = some (.ref f)) (T : Bl mg)   : Cal P w K mg base 1 "_law_spread" ["_law_heights", "_law_starts"] (sp_law_spread K Z) := by
  refine ⟨f, fd, g, F.kp, F.binds (ps := ["_law_heights", "_law_starts"]) fun _ _ _ _ _ _ us hl => match us, hl with | [_, _], _ => rfl, F.ok sc_law_spread (fun vs H Q E h => ?_) (fun cdv A outer s H vs Q E hr h => ?_)⟩
  · obtain ⟨a, c, xs, h, A, B, rfl, _⟩ := h
    rfl
  · obtain ⟨a, c, xs, h, A, B, rfl, ha, hm, hc, hx, nA, nB, lB, nok, sA, k⟩ := h
    have hu := hu_of hr
    have h4 := menu_4 h hm
    have hlh := hV_len h
    have hxl := DtAll.length hx
    rw [List.length_map] at hxl
    have lA := sta_len hm lB nA sA
    refine ⟨_, (pss_cons (ps_par (i := 2) (j := 3) (by rfl) sc_law_spread.nd rfl rfl (by decide) rfl rfl (pa_cons (pe_callTy call_list_of (by rfl) T.b_list (by decide +kernel) (pa_cons (pv 1) pa_nil)) (pa_cons pe_dnewS pa_nil)) (by rfl))
      (pss_cons (ps_for PassesOwn.never rfl (pi_list (pv 1)) (pg_name (i := 4) sc_law_spread.nd rfl (.inl rfl))
        (pss_one (ps_asg pe_bl (pg_sub (pv 3) (pv 4) (set_seen hr.units)))))
      (pss_cons (ps_for PassesOwn.never rfl (pi_range1 (by rfl) T.b_range (pa_cons pe_int pa_nil)) (pg_name (i := 5) sc_law_spread.nd rfl (.inl rfl))
        (pss_cons (ps_if (pt_cmpR op_ge (pv 5) (pe_callB call_len_seq (by rfl) T.b_len PySem.boot_len (pa_cons (pv 2) pa_nil)) (nomark _))
          (pss_one ps_break)
          pss_nil)
        (pss_one (ps_for PassesOwn.never rfl (pi_range1 (by rfl) T.b_range (pa_cons (pe_callB call_len_seq (by rfl) T.b_len PySem.boot_len (pa_cons (pv 0) pa_nil)) pa_nil)) (pg_name (i := 6) sc_law_spread.nd rfl (.inl rfl))
          (pss_one (ps_if (pt_cmpR (op_neD hr.units) (pe_ix ix_tup (pe_ix ix_list (pv 2) (pv 5) (fun _ _ => rfl)) (pv 6) (fun _ _ => rfl)) (pe_tup pa_nil) (nomark _))
            (pss_one (ps_for PassesOwn.never rfl (pi_range1 (by rfl) T.b_range (pa_cons (pe_callB call_len_seq (by rfl) T.b_len PySem.boot_len (pa_cons (pv 0) pa_nil)) pa_nil)) (pg_name (i := 7) sc_law_spread.nd rfl (.inl rfl))
              (pss_one (ps_if (PW.pt (pw_and (pt_cmpR op_ne (pv 7) (pv 6) (nomark _)) (pw_and1 (pt_cmpR op_lt (pe_callB call_len_seq (by rfl) T.b_len PySem.boot_len (pa_cons (pe_ix ix_tup (pe_ix ix_list (pv 2) (pv 5) (fun _ _ => rfl)) (pv 7) (fun _ _ => rfl)) pa_nil)) (pe_ix ix_tup (pv 0) (pv 7) (fun _ _ => rfl)) (nomark _)))))
                (pss_cons (ps_set (i := 8) sc_law_spread.nd rfl (.inl rfl) (pe_callTy call_list_of (by rfl) T.b_list (by decide +kernel) (pa_cons (pe_ix ix_list (pv 2) (pv 5) (fun _ _ => rfl)) pa_nil)))
                (pss_cons (ps_asg (pe_op op_catA (pe_ix ix_list (pv 8) (pv 7) (fun _ _ => rfl)) (pe_slice sl_tupA (pe_ix ix_list (pv 8) (pv 6) (fun _ _ => rfl)) (po_some (pe_un un_neg pe_int)) po_none)) (pg_sub (pv 8) (pv 7) set_list))
                (pss_cons (ps_asg (pe_slice sl_tupA (pe_ix ix_list (pv 8) (pv 6) (fun _ _ => rfl)) po_none (po_some (pe_un un_neg pe_int))) (pg_sub (pv 8) (pv 6) set_list))
                (pss_one (ps_if (pt_cmpR (op_seenNotIn hr.units) (pe_callTy call_tuple_of (by rfl) T.b_tuple (by decide +kernel) (pa_cons (pv 8) pa_nil)) (pv 3) rfl)
                  (pss_cons (ps_asg pe_bl (pg_sub (pv 3) (pe_callTy call_tuple_of (by rfl) T.b_tuple (by decide +kernel) (pa_cons (pv 8) pa_nil)) (set_seen hr.units)))
                  (pss_one (ps_expr (pe_bm PySem.F.plainAttrs_list PySem.F.slot_list_append PySem.F.type_list_append mt_append (pv 2) (pa_cons (pe_callTy call_tuple_of (by rfl) T.b_tuple (by decide +kernel) (pa_cons (pv 8) pa_nil)) pa_nil)))))
                  pss_nil)))))
                pss_nil))))
            pss_nil))))))
      (pss_one (ps_ret (pv 2)))))), ?_⟩
    refine ⟨_, rfl, c, xs, rfl, .inl (.inl (.inl hc)), fun fo nfo => fun d nd => ⟨_, _, rfl, ?_⟩⟩
    have s1 := same_new (o := .lst xs) nfo
    have s2 := same_new (o := SeenO P w d []) nd
    have s12 := s1.trans s2
    have nfd : fo ≠ d := ne_of_none upd_same nd
    have ndH : H d = none := s1.free nd
    -- the first ones are seen
    refine ⟨_, rfl, c, rfl, ⟨_, .inl (.inl (s12 _ _ hc))⟩, for_it walk_list (fun i σ H2 => ∃ v4 L, σ = [some (.ref a), some (.ref c), some (.ref fo), some (.ref d), v4, none, none, none, none] ∧ Same H H2 ∧ H2 fo = some (.lst xs) ∧ H2 d = some (SeenO P w d L) ∧ KeysOk K H2 L ∧ L.map (·.1) = A.take i)
      ⟨_, [], rfl, s12, s2 _ _ upd_same, upd_same, (fun p hp => nomatch hp), rfl⟩ (fun i σ H2 _ ⟨_, _, _, z, _⟩ => .inl (.inl (z _ _ hc))) ?_ ?_⟩
    · rintro i x σ H2 H3 hi ⟨v4, L, rfl, s3, f3, d3, k3, e3⟩ ⟨eH, hxi⟩
      have eH := eH.symm
      subst eH
      have hiA : i < A.length := by omega
      have hX : A[i]? = some A[i] := List.getElem?_eq_getElem hiA
      obtain ⟨xa, xv, h1, h2, h3⟩ := st_at hx hX
      rw [hxi] at h1
      cases h1
      have dt : Dt K H2 (.ref xa) (stD A[i]) := .tup (tex s3 _ _ h2) (DtAll.mono (tex s3) _ _ h3)
      have Ll : L.length ≤ 1000 := by
        have := congrArg List.length e3
        rw [List.length_map, List.length_take] at this
        omega
      refine ⟨_, rfl, _, rfl, xa, d, A[i], L, rfl, rfl, rfl, dt, d3, k3, ?_, Ll, ?_⟩
      · rw [e3]
        intro z
        obtain ⟨j, hj, ej⟩ := List.getElem_of_mem z
        rw [List.length_take] at hj
        rw [List.getElem_take] at ej
        have := (List.getElem_inj nA).mp ej
        omega
      · have m := tupEx_ext (K := K) (o := SeenO P w d (L ++ [(A[i], xa)])) d3
        refine ⟨_, L ++ [(A[i], xa)], rfl, fun b o ob => ?_, ?_, upd_same, fun p hp => ?_, ?_⟩
        · rw [upd_ne (ne_of_none ob ndH)]
          exact s3 _ _ ob
        · rw [upd_ne nfd]
          exact f3
        · rcases List.mem_append.mp hp with q | q
          · exact Dt.mono m _ _ (k3 p q)
          · rw [List.mem_singleton.mp q]
            exact Dt.mono m _ _ dt
        · rw [List.map_append, e3, List.take_add_one, hX]
          rfl
    · rintro σ H2 ⟨v4, L, rfl, s3, f3, d3, k3, e3⟩
      rw [hxl, List.take_length] at e3
      refine ⟨400, rfl, by decide, by decide, for_it walk_range (fun i σ H2 => ∃ v4 v5 v6 v7 v8 f, σ = [some (.ref a), some (.ref c), some (.ref fo), some (.ref d), v4, v5, v6, v7, v8] ∧ Same H H2 ∧ SI K P w H2 fo d f ∧ f.Nodup ∧ (∀ Z ∈ f, Sta h B Z) ∧ spread h A = spreadGo h (400 - i) i f)
        ⟨_, _, _, _, _, A, rfl, s3, ⟨xs, L, f3, DtAll.mono (tex s3) _ _ hx, d3, k3, e3⟩, nA, sA, rfl⟩ (fun i σ H2 _ _ => trivial) ?_ ?_⟩
      · rintro i x σ H3 H4 hi ⟨v4, v5, v6, v7, v8, f, rfl, s4, S4, nf, sf, ef⟩ ⟨eH, hxi⟩
        have eH := eH.symm
        subst eH
        obtain rfl : x = V.int (i : Int) := hxi.trans (congrArg V.int (Int.zero_add _))
        have hi400 : i < 400 := hi
        obtain ⟨ys, L4, f4, y4, d4, k4, e4⟩ := id S4
        have yl := DtAll.length y4
        rw [List.length_map] at yl
        refine ⟨_, rfl, _, rfl, fo, ys, rfl, .inl (.inl (.inl f4)), _, _, rfl, rfl, _, rfl, ite2 (fun z => ?_) fun z => ?_⟩
        · have hfl : f.length ≤ i := by
            have := of_decide_eq_true z
            omega
          refine ⟨_, rfl, k H3 fo ys s4 f4 ?_⟩
          rw [ef, spread_done hfl]
          exact y4
        · have hfl : i < f.length := by
            refine Nat.lt_of_not_le fun q => z (decide_eq_true ?_)
            omega
          have hX : f[i]? = some f[i] := List.getElem?_eq_getElem hfl
          have sX := sf _ (List.getElem_mem hfl)
          generalize f[i] = X at hX sX
          have xlen : X.length = h.length := sta_lens sX
          have e400 : 400 - i = (400 - (i + 1)) + 1 := by omega
          rw [e400, spread_step hX] at ef
          refine ⟨_, rfl, a, _, rfl, .inr (tex s4 _ _ ha), ((hV h).length : Int), rfl, by omega, by omega, for_it walk_range (fun m σ H5 => ∃ v6 v7 v8 g, σ = [some (.ref a), some (.ref c), some (.ref fo), some (.ref d), v4, some (.int (i : Int)), v6, v7, v8] ∧ Same H H5 ∧ SI K P w H5 fo d g ∧ g.Nodup ∧ (∀ Z ∈ g, Sta h B Z) ∧ g = addAll f ((List.range m).flatMap (chunkM h X)))
            ⟨_, _, _, f, rfl, s4, S4, nf, sf, rfl⟩ (fun m σ H5 _ _ => trivial) ?_ ?_⟩
          · rintro m x σ H5 H6 hmi ⟨v6, v7, v8, g, rfl, s5, S5, ng, sg', eg⟩ ⟨eH, hxm⟩
            have eH := eH.symm
            subst eH
            obtain rfl : x = V.int (m : Int) := hxm.trans (congrArg V.int (Int.zero_add _))
            have hmh : m < h.length := by
              have : m < ((hV h).length : Int).toNat := hmi
              omega
            obtain ⟨zs', L5, f5, y5, d5, k5, e5⟩ := id S5
            have gX : g[i]? = some X := by
              rw [eg]
              exact addAll_get _ _ hX
            obtain ⟨xa, xv, q1, q2, q3⟩ := st_at y5 gX
            obtain ⟨ya, q4, q5⟩ := sd_at q3 (show m < X.length by omega)
            have okm : ∀ x ∈ X.getD m [], NameOk x := fun x hx => nok x (sta_getD sX m x hx)
            have egs : (List.range (m + 1)).flatMap (chunkM h X) = (List.range m).flatMap (chunkM h X) ++ chunkM h X m := by
              rw [List.range_succ, List.flatMap_append]
              show _ ++ (chunkM h X m ++ []) = _
              rw [List.append_nil]
            refine ⟨_, rfl, _, rfl, fo, zs', (i : Int), _, rfl, rfl, .inl (.inl f5), atI_nat q1, _, rfl, xa, xv, (m : Int), _, rfl, rfl, q2, atI_nat q4, Nat.zero_le _, fun e ne => ?_⟩
            have sE := same_new (o := .tup []) ne
            refine ⟨.tuple ((X.getD m []).map PyData.str), .tuple [], .tup (tex sE _ _ q5) (DtAll.dp _ _ (DtAll.of_strs _)), .tup (.inl (.inl upd_same)) .nil, shapedT okm, shapedT (xs := []) (fun x hx => nomatch hx), _, rfl, ?_⟩
            rw [eqvT_nil]
            have S6 := S5.same sE
            have s6 := s5.trans sE
            generalize upd H5 e (.tup []) = H6 at S6 s6
            by_cases hemp : X.getD m [] = []
            · rw [decide_eq_true hemp]
              refine iteF ⟨_, _, _, g, rfl, s6, S6, ng, sg', ?_⟩
              rw [egs, eg]
              unfold chunkM
              rw [hemp]
              show _ = addAll f (_ ++ [])
              rw [List.append_nil]
            · rw [decide_eq_false hemp]
              have hie : (X.getD m []).isEmpty = false := by
                cases hq : X.getD m [] with
                | nil => exact absurd hq hemp
                | cons _ _ => rfl
              have ech : chunkM h X m = (List.range h.length).filterMap (cellM h X m) := by
                unfold chunkM
                rw [if_neg (by rw [hie]; exact Bool.false_ne_true)]
              refine iteT ⟨_, rfl, a, _, rfl, .inr (tex s6 _ _ ha), ((hV h).length : Int), rfl, by omega, by omega, for_it walk_range (fun j σ H7 => ∃ v7 v8 g2, σ = [some (.ref a), some (.ref c), some (.ref fo), some (.ref d), v4, some (.int (i : Int)), some (.int (m : Int)), v7, v8] ∧ Same H H7 ∧ SI K P w H7 fo d g2 ∧ g2.Nodup ∧ (∀ Z ∈ g2, Sta h B Z) ∧ g2 = addAll g ((List.range j).filterMap (cellM h X m)))
                ⟨_, _, g, rfl, s6, S6, ng, sg', rfl⟩ (fun j σ H7 _ _ => trivial) ?_ ?_⟩
              · rintro j x σ H7 H8 hji ⟨v7, v8, g2, rfl, s7, S7, ng2, sg2, eg2⟩ ⟨eH, hxj⟩
                have eH := eH.symm
                subst eH
                obtain rfl : x = V.int (j : Int) := hxj.trans (congrArg V.int (Int.zero_add _))
                have hjh : j < h.length := by
                  have : j < ((hV h).length : Int).toNat := hji
                  omega
                have efm : (List.range (j + 1)).filterMap (cellM h X m) = (List.range j).filterMap (cellM h X m) ++ (cellM h X m j).toList := by
                  rw [List.range_succ, List.filterMap_append]
                  have : List.filterMap (cellM h X m) [j] = (cellM h X m j).toList := by
                    rw [List.filterMap_cons]
                    cases cellM h X m j <;> rfl
                  exact congrArg _ this
                obtain ⟨us, L7, f7, y7, d7, k7, e7⟩ := id S7
                have gX2 : g2[i]? = some X := by
                  rw [eg2]
                  exact addAll_get _ _ gX
                obtain ⟨xa, xv, q1, q2, q3⟩ := st_at y7 gX2
                have xvl := DtAll.length q3
                rw [List.length_map] at xvl
                obtain ⟨ym, r1, r2⟩ := sd_at q3 (show m < X.length by omega)
                obtain ⟨yj, r3, r4⟩ := sd_at q3 (show j < X.length by omega)
                have hjn : h[j]? = some (h.getD j 0) := by
                  rw [List.getD_eq_getElem?_getD, List.getElem?_eq_getElem hjh]
                  rfl
                have skip : cellM h X m j = none → g2 = addAll g ((List.range (j + 1)).filterMap (cellM h X m)) := fun hcell => by
                  rw [efm, hcell]
                  exact eg2.trans (congrArg (addAll g) (List.append_nil _).symm)
                refine ⟨_, rfl, _, rfl, rfl, _, rfl, ?_⟩
                by_cases hjm : j = m
                · subst hjm
                  rw [show (!decide (V.int (j : Int) = V.int (j : Int))) = false by rw [decide_eq_true rfl]; rfl]
                  refine iteF (iteF ⟨_, _, g2, rfl, s7, S7, ng2, sg2, skip (if_neg fun q => q.1 rfl)⟩)
                · rw [show (!decide (V.int (j : Int) = V.int (m : Int))) = true by rw [decide_eq_false (fun q => hjm (by have := V.int.inj q; omega))]; rfl]
                  refine iteT ⟨_, rfl, _, rfl, fo, us, (i : Int), _, rfl, rfl, .inl (.inl f7), atI_nat q1, _, rfl, xa, xv, (j : Int), _, rfl, rfl, q2, atI_nat r3, yj, _, rfl, .inr r4, _, rfl, _, rfl, a, _, (j : Int), _, rfl, rfl, tex s7 _ _ ha, atI_nat (hV_at hjn), _, _, rfl, rfl, _, rfl, ite2 (fun z => ?_) fun z => ?_⟩
                  · have zl : (X.getD j []).length < h.getD j 0 := by
                      have := of_decide_eq_true z
                      rw [List.length_map] at this
                      omega
                    have ecl : cellM h X m j = some (moveOf X m j) := if_pos ⟨hjm, zl⟩
                    have sM := sta_next hm ("" : Str) sX (mem_cellM hmh hjh hie ecl)
                    have lenm := sta_getD_len sX m
                    have lenj := sta_getD_len sX j
                    -- row = list(found[at])
                    refine ⟨_, rfl, _, rfl, fo, us, (i : Int), _, rfl, rfl, .inl (.inl f7), atI_nat q1, xa, xv, rfl, .inr q2, fun r nr => ?_⟩
                    have s8 := same_new (o := .lst xv) nr
                    have hr0 : (upd H7 r (.lst xv)) r = some (.lst xv) := upd_same
                    have S8 := S7.same s8
                    have sA8 := s7.trans s8
                    have r2' := tex s8 _ _ r2
                    have r4' := tex s8 _ _ r4
                    have q3' := DtAll.mono (tex s8) _ _ q3
                    have nrfo : fo ≠ r := ne_of_none f7 nr
                    have nrd : d ≠ r := ne_of_none d7 nr
                    have nrH : H r = none := s7.free nr
                    generalize upd H7 r (.lst xv) = H8 at hr0 S8 sA8 r2' r4' q3'
                    -- row[other] = row[other] + row[one][-1:]
                    refine ⟨_, rfl, _, rfl, r, xv, (j : Int), _, rfl, rfl, .inl (.inl hr0), atI_nat r3, _, rfl, _, rfl, r, xv, (m : Int), _, rfl, rfl, .inl (.inl hr0), atI_nat r1, 1, rfl, _, rfl, ?_⟩
                    refine slA_lastN r2' fun p9 H9 s9 hp9 => ?_
                    refine catA_any (tex s9 _ _ r4') hp9 ?_ fun pA HA sA hpA => ?_
                    · rw [List.length_drop, List.length_map, List.length_map]
                      exact small (by omega)
                    have hrA := sA _ _ (s9 _ _ hr0)
                    refine ⟨_, rfl, _, rfl, r, xv, (j : Int), j, rfl, rfl, hrA, ixN_nat (by omega), ?_⟩
                    have sAA := s9.trans sA
                    have SA := S8.same sAA
                    have s0A := sA8.trans sAA
                    have mB := tupEx_lst (K := K) (o := .lst (xv.set j (.ref pA))) hrA
                    have S0 : SI K P w (upd HA r (.lst (xv.set j (.ref pA)))) fo d g2 := by
                      obtain ⟨u1, u2, u3, u4, u5, u6, u7⟩ := SA
                      exact ⟨u1, u2, by rw [upd_ne nrfo]; exact u3, DtAll.mono mB _ _ u4, by rw [upd_ne nrd]; exact u5, u6.mono mB, u7⟩
                    have s0B : Same H (upd HA r (.lst (xv.set j (.ref pA)))) := fun b o ob => by
                      rw [upd_ne (ne_of_none ob nrH)]
                      exact s0A _ _ ob
                    have hrB : (upd HA r (.lst (xv.set j (.ref pA)))) r = some (.lst (xv.set j (.ref pA))) := upd_same
                    have r2B := mB _ _ (tex sAA _ _ r2')
                    have hpB := mB _ _ hpA
                    have q3B := DtAll.mono mB _ _ (DtAll.mono (tex sAA) _ _ q3')
                    generalize upd HA r (.lst (xv.set j (.ref pA))) = HB at S0 s0B hrB r2B hpB q3B
                    have r1B : (xv.set j (.ref pA))[m]? = some (.ref ym) := by
                      rw [List.getElem?_set_ne hjm]
                      exact r1
                    -- row[one] = row[one][:-1]
                    refine ⟨_, rfl, _, rfl, r, _, (m : Int), _, rfl, rfl, .inl (.inl hrB), atI_nat r1B, 1, rfl, _, rfl, ?_⟩
                    refine slA_init r2B fun pC HC sC hpC => ?_
                    have hrC := sC _ _ hrB
                    refine ⟨_, rfl, _, rfl, r, _, (m : Int), m, rfl, rfl, hrC, ixN_nat (by rw [List.length_set]; omega), ?_⟩
                    have SC := S0.same sC
                    have s0C := s0B.trans sC
                    have mD := tupEx_lst (K := K) (o := .lst ((xv.set j (.ref pA)).set m (.ref pC))) hrC
                    have SD : SI K P w (upd HC r (.lst ((xv.set j (.ref pA)).set m (.ref pC)))) fo d g2 := by
                      obtain ⟨u1, u2, u3, u4, u5, u6, u7⟩ := SC
                      exact ⟨u1, u2, by rw [upd_ne nrfo]; exact u3, DtAll.mono mD _ _ u4, by rw [upd_ne nrd]; exact u5, u6.mono mD, u7⟩
                    have s0D : Same H (upd HC r (.lst ((xv.set j (.ref pA)).set m (.ref pC)))) := fun b o ob => by
                      rw [upd_ne (ne_of_none ob nrH)]
                      exact s0C _ _ ob
                    have hrD : (upd HC r (.lst ((xv.set j (.ref pA)).set m (.ref pC)))) r = some (.lst ((xv.set j (.ref pA)).set m (.ref pC))) := upd_same
                    have hpAD := mD _ _ (tex sC _ _ hpB)
                    have hpCD := mD _ _ hpC
                    have q3D := DtAll.mono mD _ _ (DtAll.mono (tex sC) _ _ q3B)
                    have rowD : DtAll K (upd HC r (.lst ((xv.set j (.ref pA)).set m (.ref pC)))) ((xv.set j (.ref pA)).set m (.ref pC)) ((moveOf X m j).map sD) := by
                      rw [move_sD]
                      refine DtAll.set m (DtAll.set j q3D (sd_new ?_)) (sd_new ?_)
                      · rw [List.map_append]
                        unfold lastL
                        rw [List.map_drop]
                        rw [List.length_map] at hpAD
                        exact hpAD
                      · rw [List.map_dropLast]
                        exact hpCD
                    generalize upd HC r (.lst ((xv.set j (.ref pA)).set m (.ref pC))) = HD at SD s0D hrD rowD
                    generalize (xv.set j (.ref pA)).set m (.ref pC) = rv at hrD rowD
                    generalize moveOf X m j = Y at ecl sM rowD
                    -- if tuple(row) not in seen
                    refine ⟨_, rfl, r, rv, rfl, .inl ⟨.inl (.inl hrD), fun t1 nt1 => ?_⟩⟩
                    have st1 := same_new (o := .tup rv) nt1
                    have y1 : Dt K (upd HD t1 (.tup rv)) (.ref t1) (stD Y) := ref_new upd_same (DtAll.mono (tex st1) _ _ rowD)
                    have SE := SD.same st1
                    have s0E := s0D.trans st1
                    have hrE := st1 _ _ hrD
                    have rowE := DtAll.mono (tex st1) _ _ rowD
                    generalize upd HD t1 (.tup rv) = HE at y1 SE s0E hrE rowE
                    obtain ⟨vs, LE, fE, yE, dE, kE, eE⟩ := id SE
                    refine ⟨_, rfl, t1, d, Y, LE, rfl, rfl, y1, dE, kE, _, rfl, ?_⟩
                    have egn : addAll g ((List.range (j + 1)).filterMap (cellM h X m)) = if Y ∈ g2 then g2 else g2 ++ [Y] := by
                      rw [efm, ecl]
                      have sn := addAll_snoc (α := Sd Str) g ((List.range j).filterMap (cellM h X m)) Y
                      rw [← eg2] at sn
                      by_cases q : Y ∈ g2
                      · rw [if_pos q] at sn ⊢
                        exact sn
                      · rw [if_neg q] at sn ⊢
                        exact sn
                    simp only [if_true, eE]
                    by_cases hY : Y ∈ g2
                    · rw [decide_eq_true hY]
                      refine iteF ⟨_, _, g2, rfl, s0E, SE, ng2, sg2, ?_⟩
                      rw [egn, if_pos hY]
                    · rw [decide_eq_false hY]
                      have gl := sta_len hm lB ng2 sg2
                      have LEl : LE.length ≤ 1000 := by
                        have := congrArg List.length eE
                        rw [List.length_map] at this
                        omega
                      refine iteT ⟨_, rfl, _, rfl, r, rv, rfl, .inl ⟨.inl (.inl hrE), fun t2 nt2 => ?_⟩⟩
                      have st2 := same_new (o := .tup rv) nt2
                      have y2 : Dt K (upd HE t2 (.tup rv)) (.ref t2) (stD Y) := ref_new upd_same (DtAll.mono (tex st2) _ _ rowE)
                      have s0F := s0E.trans st2
                      have hrF := st2 _ _ hrE
                      have rowF := DtAll.mono (tex st2) _ _ rowE
                      have fF := st2 _ _ fE
                      have dF := st2 _ _ dE
                      have yF := DtAll.mono (tex st2) _ _ yE
                      have kF := kE.mono (tex st2)
                      generalize upd HE t2 (.tup rv) = HF at y2 s0F hrF rowF fF dF yF kF
                      refine ⟨t2, d, Y, LE, rfl, rfl, rfl, y2, dF, kF, by rw [eE]; exact hY, LEl, ?_⟩
                      have mG := tupEx_ext (K := K) (o := SeenO P w d (LE ++ [(Y, t2)])) dF
                      have s0G : Same H (upd HF d (SeenO P w d (LE ++ [(Y, t2)]))) := fun b o ob => by
                        rw [upd_ne (ne_of_none ob ndH)]
                        exact s0F _ _ ob
                      have hrG : (upd HF d (SeenO P w d (LE ++ [(Y, t2)]))) r = some (.lst rv) := by
                        rw [upd_ne nrd.symm]
                        exact hrF
                      have rowG := DtAll.mono mG _ _ rowF
                      have fG : (upd HF d (SeenO P w d (LE ++ [(Y, t2)]))) fo = some (.lst vs) := by
                        rw [upd_ne nfd]
                        exact fF
                      have dG : (upd HF d (SeenO P w d (LE ++ [(Y, t2)]))) d = some (SeenO P w d (LE ++ [(Y, t2)])) := upd_same
                      have yG := DtAll.mono mG _ _ yF
                      have kG : KeysOk K (upd HF d (SeenO P w d (LE ++ [(Y, t2)]))) (LE ++ [(Y, t2)]) := fun q hq => by
                        rcases List.mem_append.mp hq with z | z
                        · exact Dt.mono mG _ _ (kF q z)
                        · rw [List.mem_singleton.mp z]
                          exact Dt.mono mG _ _ y2
                      refine ⟨_, rfl, .inl ⟨rfl, _, .inl (.inl fG)⟩, _, rfl, r, rv, rfl, .inl ⟨.inl (.inl hrG), fun t3 nt3 => ?_⟩⟩
                      have st3 := same_new (o := .tup rv) nt3
                      have y3 : Dt K (upd (upd HF d (SeenO P w d (LE ++ [(Y, t2)]))) t3 (.tup rv)) (.ref t3) (stD Y) := ref_new upd_same (DtAll.mono (tex st3) _ _ rowG)
                      have vl := DtAll.length yG
                      rw [List.length_map] at vl
                      have fI := st3 _ _ fG
                      have mI := tupEx_lst (K := K) (o := .lst (vs ++ [.ref t3])) fI
                      refine ⟨fo, vs, _, rfl, rfl, fI, small1000 (by omega), _, _, g2 ++ [Y], rfl, fun b o ob => ?_, ⟨_, LE ++ [(Y, t2)], upd_same, ?_, ?_, ?_, ?_⟩, ?_, fun Z hZ => ?_, ?_⟩
                      · rw [upd_ne (ne_of_none ob nfo)]
                        exact st3 _ _ (s0G _ _ ob)
                      · rw [List.map_append]
                        exact DtAll.app (DtAll.mono ((tex st3).trans mI) _ _ yG) (.cons (Dt.mono mI _ _ y3) .nil)
                      · rw [upd_ne nfd.symm]
                        exact st3 _ _ dG
                      · exact (kG.mono (tex st3)).mono mI
                      · rw [List.map_append, eE]
                        rfl
                      · exact List.nodup_append.mpr ⟨ng2, List.nodup_cons.mpr ⟨List.not_mem_nil, List.nodup_nil⟩, fun a ha b hb e => by
                          rw [List.mem_singleton.mp hb] at e
                          exact hY (e ▸ ha)⟩
                      · rcases List.mem_append.mp hZ with q | q
                        · exact sg2 Z q
                        · rw [List.mem_singleton.mp q]
                          exact sM
                      · rw [egn, if_neg hY]
                  · exact ⟨_, _, g2, rfl, s7, S7, ng2, sg2, skip (if_neg fun q => z (decide_eq_true (by rw [List.length_map]; omega)))⟩
              · rintro σ H7 ⟨v7, v8, g2, rfl, s7, S7, ng2, sg2, eg2⟩
                have e0 : ((hV h).length : Int).toNat = h.length := by omega
                rw [e0] at eg2
                refine ⟨_, _, _, g2, rfl, s7, S7, ng2, sg2, ?_⟩
                rw [egs, ech, addAll_app, ← eg, eg2]
          · rintro σ H5 ⟨v6, v7, v8, g, rfl, s5, S5, ng, sg', eg⟩
            have e0 : ((hV h).length : Int).toNat = h.length := by omega
            rw [e0, ← nexts_eq] at eg
            refine ⟨_, _, _, _, _, g, rfl, s5, S5, ng, sg', ?_⟩
            rw [ef, eg]
      · rintro σ H3 ⟨v4, v5, v6, v7, v8, f, rfl, s4, S4, nf, sf, ef⟩
        obtain ⟨ys, L4, f4, y4, _⟩ := S4
        have ef : spread h A = f := ef
        refine ⟨_, rfl, k H3 fo ys s4 f4 ?_⟩
        rw [ef]
        exact y4
end
end K19
end

section
set_option Elab.async false
set_option linter.all false
set_option maxRecDepth 100000
set_option maxHeartbeats 8000000
/-! N7: the standings behind an event. -/
namespace K19
open PySem L2 K19M
/-! ### the plain side -/
def cellE (h : List Nat) (e : Bool × Str) (X : Sd Str) (i : Nat) : Option (Sd Str) :=
  if e.1 = true then (if (X.getD i []).length < h.getD i 0 then some (X.set i (X.getD i [] ++ [e.2])) else none) else if lastL (X.getD i []) = [e.2] then some (X.set i (X.getD i []).dropLast) else none
theorem stepsEv_eq (h : List Nat) (e : Bool × Str) (X : Sd Str) : stepsEv h e X = (List.range h.length).filterMap (cellE h e X) := by
  obtain ⟨b, x⟩ := e
  cases b <;> rfl
theorem fm_range {β : Type} (f : Nat → Option β) (j : Nat) : (List.range (j + 1)).filterMap f = (List.range j).filterMap f ++ (f j).toList := by
  rw [List.range_succ, List.filterMap_append]
  have : List.filterMap f [j] = (f j).toList := by
    rw [List.filterMap_cons]
    cases f j <;> rfl
  exact congrArg _ this
theorem eqvT1 (xs : List Str) (b : Str) : PyData.eqv (.tuple (xs.map PyData.str)) (.tuple [.str b]) = decide (xs = [b]) := by
  cases xs with
  | nil => rfl
  | cons a xs =>
    cases xs with
    | nil =>
      show ((a == b) && true) = decide ([a] = [b])
      rw [Bool.and_true]
      by_cases q : a = b
      · subst q
        rw [decide_eq_true rfl]
        exact beq_self_eq_true a
      · rw [decide_eq_false (fun z => q (List.cons.inj z).1)]
        exact beq_eq_false_iff_ne.mpr q
    | cons c xs =>
      show ((a == b) && false) = decide (a :: c :: xs = [b])
      rw [Bool.and_false]
      refine (decide_eq_false fun z => ?_).symm
      cases (List.cons.inj z).2
theorem stB_len {B : List Str} {e : Bool × Str} (lB : B.length ≤ 5) (h : e.1 = true → B.length < 5) : (stB B e).length ≤ 5 := by
  obtain ⟨b, x⟩ := e
  cases b with
  | true =>
    show (B ++ [x]).length ≤ 5
    rw [List.length_append, List.length_singleton]
    have := h rfl
    omega
  | false => exact Nat.le_trans (List.length_erase_le ..) lB
theorem mem_lastL {xs : List Str} {x : Str} (h : x ∈ lastL xs) : x ∈ xs := List.mem_of_mem_drop h
section
variable {P : Program} {w : World} {K : PySem.W.Frag} {mg : Str → Option Value} {base : Heap} {Z : Za}
def sp_law_after (K : PySem.W.Frag) (Z : Za) : Sp := fun vs H Q _ => ∃ (a c t : Addr) (xs : List V) (h : List Nat) (S : List (Sd Str)) (B : List Str) (e : Bool × Str), vs = [.ref a, .ref c, .ref t] ∧ SqT K H a (hV h) ∧ h ∈ menu ∧ H c = some (.lst xs) ∧ DtAll K H xs (S.map stD) ∧ B.Nodup ∧ B.length ≤ 5 ∧
  (∀ x ∈ B, NameOk x) ∧ (∀ Z ∈ S, Sta h B Z) ∧ SqT K H t [.str (wd e.1), .str e.2] ∧ NameOk e.2 ∧ (e.1 = true → B.length < 5) ∧ ∀ H' p ys, Same H H' → H' p = some (.lst ys) → DtAll K H' ys ((after h S e).map stD) → Q (.ref p) H'
theorem c_law_after {f : Addr} {fd : FuncData} (F : Fun K "_law_after" "_law_after" s_law_after f fd) (g : mg "_law_after" = some (.ref f)) (T : Bl mg)   : Cal P w K mg base 1 "_law_after" ["_law_heights", "_law_standings", "_law_event"] (sp_law_after K Z) := by
  refine ⟨f, fd, g, F.kp, F.binds (ps := ["_law_heights", "_law_standings", "_law_event"]) fun _ _ _ _ _ _ us hl => match us, hl with | [_, _, _], _ => rfl, F.ok sc_law_after (fun vs H Q E h => ?_) (fun cdv A outer s H vs Q E hr h => ?_)⟩
  · obtain ⟨a, c, t, xs, h, S, B, e, rfl, _⟩ := h
    rfl
  · obtain ⟨a, c, t, xs, h, S, B, e, rfl, ha, hm, hc, hx, nB, lB, nok, sS, ht, eok, eB, k⟩ := h
    have hu := hu_of hr
    have h4 := menu_4 h hm
    have hlh := hV_len h
    have hxl := DtAll.length hx
    rw [List.length_map] at hxl
    have lB2 := stB_len lB eB
    refine ⟨_, (pss_cons (ps_par (i := 3) (j := 4) (by rfl) sc_law_after.nd rfl rfl (by decide) rfl rfl (pa_cons (pe_lst pa_nil) (pa_cons pe_dnewS pa_nil)) (by rfl))
      (pss_cons (ps_for PassesOwn.never rfl (pi_list (pv 1)) (pg_name (i := 5) sc_law_after.nd rfl (.inl rfl))
        (pss_one (ps_for PassesOwn.never rfl (pi_range1 (by rfl) T.b_range (pa_cons (pe_callB call_len_seq (by rfl) T.b_len PySem.boot_len (pa_cons (pv 0) pa_nil)) pa_nil)) (pg_name (i := 6) sc_law_after.nd rfl (.inl rfl))
          (pss_cons (ps_set (i := 7) sc_law_after.nd rfl (.inl rfl) (pe_callTy call_list_of (by rfl) T.b_list (by decide +kernel) (pa_cons (pv 5) pa_nil)))
          (pss_cons (ps_set (i := 8) sc_law_after.nd rfl (.inl rfl) (pe_cut (pe_and (pe_cmpR op_eq (pe_ix ix_tup (pv 2) pe_int (fun _ _ => rfl)) pe_str (nomark _)) (pe_one (pe_cmpR op_lt (pe_callB call_len_seq (by rfl) T.b_len PySem.boot_len (pa_cons (pe_ix ix_list (pv 7) (pv 6) (fun _ _ => rfl)) pa_nil)) (pe_ix ix_tup (pv 0) (pv 6) (fun _ _ => rfl)) (nomark _))))))
          (pss_cons (ps_cut (ps_if (pt_val (pv 8))
            (pss_one (ps_asg (pe_op op_catA (pe_ix ix_list (pv 7) (pv 6) (fun _ _ => rfl)) (pe_tup (pa_cons (pe_ix ix_tup (pv 2) pe_int (fun _ _ => rfl)) pa_nil))) (pg_sub (pv 7) (pv 6) set_list)))
            (pss_one (ps_if (PW.pt (pw_and (pt_cmpR op_eq (pe_ix ix_tup (pv 2) pe_int (fun _ _ => rfl)) pe_str (nomark _)) (pw_and1 (pt_cmpR (op_eqD hr.units) (pe_slice sl_tupA (pe_ix ix_list (pv 7) (pv 6) (fun _ _ => rfl)) (po_some (pe_un un_neg pe_int)) po_none) (pe_tup (pa_cons (pe_ix ix_tup (pv 2) pe_int (fun _ _ => rfl)) pa_nil)) (nomark _)))))
              (pss_cons (ps_asg (pe_slice sl_tupA (pe_ix ix_list (pv 7) (pv 6) (fun _ _ => rfl)) po_none (po_some (pe_un un_neg pe_int))) (pg_sub (pv 7) (pv 6) set_list))
              (pss_one (ps_set (i := 8) sc_law_after.nd rfl (.inl rfl) pe_bl)))
              pss_nil))))
          (pss_one (ps_if (PW.pt (pw_and (pt_val (pv 8)) (pw_and1 (pt_cmpR (op_seenNotIn hr.units) (pe_callTy call_tuple_of (by rfl) T.b_tuple (by decide +kernel) (pa_cons (pv 7) pa_nil)) (pv 4) rfl))))
            (pss_cons (ps_asg pe_bl (pg_sub (pv 4) (pe_callTy call_tuple_of (by rfl) T.b_tuple (by decide +kernel) (pa_cons (pv 7) pa_nil)) (set_seen hr.units)))
            (pss_one (ps_expr (pe_bm PySem.F.plainAttrs_list PySem.F.slot_list_append PySem.F.type_list_append mt_append (pv 3) (pa_cons (pe_callTy call_tuple_of (by rfl) T.b_tuple (by decide +kernel) (pa_cons (pv 7) pa_nil)) pa_nil)))))
            pss_nil))))))))
      (pss_one (ps_ret (pv 3))))), ?_⟩
    refine ⟨Nat.zero_le _, fun fo nfo => fun d nd => ⟨_, _, rfl, ?_⟩⟩
    have s1 := same_new (o := .lst []) nfo
    have s2 := same_new (o := SeenO P w d []) nd
    have s12 := s1.trans s2
    have nfd : fo ≠ d := ne_of_none upd_same nd
    have ndH : H d = none := s1.free nd
    refine ⟨_, rfl, c, rfl, ⟨_, .inl (.inl (s12 _ _ hc))⟩, for_it walk_list (fun i σ H2 => ∃ v5 v6 v7 v8 f, σ = [some (.ref a), some (.ref c), some (.ref t), some (.ref fo), some (.ref d), v5, v6, v7, v8] ∧ Same H H2 ∧ SI K P w H2 fo d f ∧ f.Nodup ∧ (∀ Z ∈ f, Sta h (stB B e) Z) ∧ f = addAll [] ((S.take i).flatMap (stepsEv h e)))
      ⟨_, _, _, _, [], rfl, s12, ⟨[], [], s2 _ _ upd_same, .nil, upd_same, (fun p hp => nomatch hp), rfl⟩, List.nodup_nil, (fun Z hZ => nomatch hZ), rfl⟩ (fun i σ H2 _ ⟨_, _, _, _, _, _, z, _⟩ => .inl (.inl (z _ _ hc))) ?_ ?_⟩
    · rintro i x σ H2 H3 hi ⟨v5, v6, v7, v8, f, rfl, s3, S3, nf, sf, ef⟩ ⟨eH, hxi⟩
      have eH := eH.symm
      subst eH
      have hiS : i < S.length := by omega
      have hX : S[i]? = some S[i] := List.getElem?_eq_getElem hiS
      have sX := sS _ (List.getElem_mem hiS)
      obtain ⟨xa, xv, q1, q2, q3⟩ := st_at hx hX
      rw [hxi] at q1
      cases q1
      have eft := flat_take (stepsEv h e) hX
      generalize S[i] = X at hX sX q3 eft
      have xlen : X.length = h.length := sta_lens sX
      have xvl := DtAll.length q3
      rw [List.length_map] at xvl
      refine ⟨_, rfl, a, _, rfl, .inr (tex s3 _ _ ha), ((hV h).length : Int), rfl, by omega, by omega, for_it walk_range (fun m σ H5 => ∃ v6 v7 v8 g, σ = [some (.ref a), some (.ref c), some (.ref t), some (.ref fo), some (.ref d), some (.ref xa), v6, v7, v8] ∧ Same H H5 ∧ SI K P w H5 fo d g ∧ g.Nodup ∧ (∀ Z ∈ g, Sta h (stB B e) Z) ∧ g = addAll f ((List.range m).filterMap (cellE h e X)))
        ⟨_, _, _, f, rfl, s3, S3, nf, sf, rfl⟩ (fun m σ H5 _ _ => trivial) ?_ ?_⟩
      · rintro m x σ H7 H8 hmi ⟨v6, v7, v8, g2, rfl, s7, S7, ng2, sg2, eg2⟩ ⟨eH, hxm⟩
        have eH := eH.symm
        subst eH
        obtain rfl : x = V.int (m : Int) := hxm.trans (congrArg V.int (Int.zero_add _))
        have hmh : m < h.length := by
          have : m < ((hV h).length : Int).toNat := hmi
          omega
        have efm := fm_range (cellE h e X) m
        have q2' := tex s7 _ _ q2
        have q3' := DtAll.mono (tex s7) _ _ q3
        obtain ⟨ym, r1, r2⟩ := sd_at q3' (show m < X.length by omega)
        have okm : ∀ x ∈ X.getD m [], NameOk x := fun x hx => nok x (sta_getD sX m x hx)
        have lenm := sta_getD_len sX m
        have hmn : h[m]? = some (h.getD m 0) := by
          rw [List.getD_eq_getElem?_getD, List.getElem?_eq_getElem hmh]
          rfl
        obtain ⟨us, L7, f7, y7, d7, k7, e7⟩ := id S7
        -- row = list(standing)
        refine ⟨_, rfl, xa, xv, rfl, .inr q2', fun r nr => ?_⟩
        have s8 := same_new (o := .lst xv) nr
        have hr0 : (upd H7 r (.lst xv)) r = some (.lst xv) := upd_same
        have S8 := S7.same s8
        have s08 := s7.trans s8
        have r2' := tex s8 _ _ r2
        have q38 := DtAll.mono (tex s8) _ _ q3'
        have nrfo : fo ≠ r := ne_of_none f7 nr
        have nrd : d ≠ r := ne_of_none d7 nr
        have nrH : H r = none := s7.free nr
        generalize upd H7 r (.lst xv) = H8 at hr0 S8 s08 r2' q38
        have ht8 := tex s08 _ _ ht
        -- fits
        obtain ⟨ft, eft2⟩ : ∃ b : Bool, b = (e.1 && decide ((X.getD m []).length < h.getD m 0)) := ⟨_, rfl⟩
        refine ⟨fun v H' => v = .bl ft ∧ H' = H8, ⟨_, rfl, t, _, 0, _, rfl, rfl, ht8, atI_nat (j := 0) rfl, rfl, e.1, ?_, ?_⟩, ?_⟩
        · cases e.1
          · exact blF wd_2
          · exact blT rfl
        · cases he : e.1 with
          | true =>
            refine iteT ⟨_, rfl, _, rfl, r, xv, (m : Int), _, rfl, rfl, .inl (.inl hr0), atI_nat r1, ym, _, rfl, .inr r2', _, rfl, _, rfl, a, _, (m : Int), _, rfl, rfl, tex s08 _ _ ha, atI_nat (hV_at hmn), _, _, rfl, rfl, ?_, rfl⟩
            rw [eft2, he, Bool.true_and]
            show V.bl (decide ((((X.getD m []).map V.str).length : Int) < ((h.getD m 0 : Nat) : Int))) = _
            rw [List.length_map]
            congr 1
            exact decide_eq_decide.mpr Int.ofNat_lt
          | false =>
            refine iteF ⟨?_, rfl⟩
            rw [eft2, he]
            rfl
        · rintro v H' ⟨rfl, rfl⟩
          -- the row is changed
          refine ⟨fun σ' H' => ∃ (ft' : Bool) (rv : List V), σ' = [some (.ref a), some (.ref c), some (.ref t), some (.ref fo), some (.ref d), some (.ref xa), some (.int (m : Int)), some (.ref r), some (.bl ft')] ∧ H' r = some (.lst rv) ∧ Same H H' ∧ SI K P w H' fo d g2 ∧
            ((ft' = true ∧ ∃ Y, cellE h e X m = some Y ∧ DtAll K H' rv (Y.map sD)) ∨ (ft' = false ∧ cellE h e X m = none)), ?_, ?_⟩
          · have setr : ∀ (H9 : Hp) (p : Addr) (st : List Str), Same H' H9 → SqT K H9 p (st.map V.str) → Same H (upd H9 r (.lst (xv.set m (.ref p)))) ∧ SI K P w (upd H9 r (.lst (xv.set m (.ref p)))) fo d g2 ∧ DtAll K (upd H9 r (.lst (xv.set m (.ref p)))) (xv.set m (.ref p)) ((X.set m st).map sD) := by
              intro H9 p st s9 hp
              have mB := tupEx_lst (K := K) (o := .lst (xv.set m (.ref p))) (s9 _ _ hr0)
              refine ⟨fun b o ob => ?_, ?_, ?_⟩
              · rw [upd_ne (ne_of_none ob nrH)]
                exact s9 _ _ (s08 _ _ ob)
              · obtain ⟨u1, u2, u3, u4, u5, u6, u7⟩ := S8.same s9
                exact ⟨u1, u2, by rw [upd_ne nrfo]; exact u3, DtAll.mono mB _ _ u4, by rw [upd_ne nrd]; exact u5, u6.mono mB, u7⟩
              · rw [List.map_set]
                exact DtAll.set m (DtAll.mono mB _ _ (DtAll.mono (tex s9) _ _ q38)) (sd_new (mB _ _ hp))
            refine ⟨_, rfl, ft, rfl, ?_⟩
            cases hft : ft with
            | true =>
              rw [hft] at eft2
              obtain ⟨z1, z2⟩ := Bool.and_eq_true_iff.mp eft2.symm
              have z2 := of_decide_eq_true z2
              have ecl : cellE h e X m = some (X.set m (X.getD m [] ++ [e.2])) := by
                unfold cellE
                rw [if_pos z1, if_pos z2]
              refine iteT ⟨_, rfl, _, rfl, r, xv, (m : Int), _, rfl, rfl, .inl (.inl hr0), atI_nat r1, _, rfl, t, _, 1, _, rfl, rfl, ht8, atI_nat (j := 1) rfl, (by show 1 ≤ sizeLine; decide), fun q nq => ?_⟩
              have sq := same_new (o := .tup [.str e.2]) nq
              refine catA_any (tex sq _ _ r2') (.inl (.inl upd_same)) ?_ fun pA HA sA hpA => ?_
              · rw [List.length_map]
                exact small (by show _ + 1 ≤ 1000; omega)
              have sAA := sq.trans sA
              refine ⟨_, rfl, _, rfl, r, xv, (m : Int), m, rfl, rfl, sAA _ _ hr0, ixN_nat (by omega), ?_⟩
              obtain ⟨w1, w2, w3⟩ := setr HA pA (X.getD m [] ++ [e.2]) sAA (by rw [List.map_append]; exact hpA)
              exact ⟨true, _, rfl, upd_same, w1, w2, .inl ⟨rfl, _, ecl, w3⟩⟩
            | false =>
              rw [hft] at eft2
              refine iteF ⟨_, rfl, t, _, 0, _, rfl, rfl, ht8, atI_nat (j := 0) rfl, rfl, !e.1, ?_, ?_⟩
              · cases e.1
                · exact blT rfl
                · exact blF wd_1
              · cases he : e.1 with
                | true =>
                  have ecl : cellE h e X m = none := by
                    unfold cellE
                    rw [he, Bool.true_and] at eft2
                    rw [if_pos he, if_neg (of_decide_eq_false eft2.symm)]
                  exact iteF (iteF ⟨false, xv, rfl, hr0, s08, S8, .inr ⟨rfl, ecl⟩⟩)
                | false =>
                  refine iteT ⟨_, rfl, _, rfl, r, xv, (m : Int), _, rfl, rfl, .inl (.inl hr0), atI_nat r1, 1, rfl, _, rfl, ?_⟩
                  refine slA_lastN r2' fun p9 H9 s9 hp9 => ?_
                  have ht9 := tex s9 _ _ ht8
                  refine ⟨_, rfl, t, _, 1, _, rfl, rfl, ht9, atI_nat (j := 1) rfl, (by show 1 ≤ sizeLine; decide), fun q nq => ?_⟩
                  have sq := same_new (o := .tup [.str e.2]) nq
                  have hp9' := tex sq _ _ hp9
                  have hl9 : ((X.getD m []).map V.str).drop (((X.getD m []).map V.str).length - 1) = (lastL (X.getD m [])).map V.str := by
                    unfold lastL
                    rw [List.map_drop, List.length_map]
                  rw [hl9] at hp9'
                  have okl : ∀ x ∈ lastL (X.getD m []), NameOk x := fun x hx => okm x (mem_lastL hx)
                  refine ⟨.tuple ((lastL (X.getD m [])).map PyData.str), .tuple ([e.2].map PyData.str), .tup hp9' (DtAll.dp _ _ (DtAll.of_strs _)), .tup (.inl (.inl upd_same)) (DtAll.dp _ _ (DtAll.of_strs [e.2])), shapedT okl, shapedT (fun x hx => by rw [List.mem_singleton.mp hx]; exact eok), _, rfl, ?_⟩
                  rw [show PyData.eqv (.tuple ((lastL (X.getD m [])).map PyData.str)) (.tuple ([e.2].map PyData.str)) = decide (lastL (X.getD m []) = [e.2]) from eqvT1 _ _]
                  have s99 := s9.trans sq
                  by_cases hL : lastL (X.getD m []) = [e.2]
                  · have ecl : cellE h e X m = some (X.set m (X.getD m []).dropLast) := by
                      unfold cellE
                      rw [if_neg (by rw [he]; exact Bool.false_ne_true), if_pos hL]
                    rw [decide_eq_true hL]
                    refine iteT ⟨_, rfl, _, rfl, r, xv, (m : Int), _, rfl, rfl, .inl (.inl (s99 _ _ hr0)), atI_nat r1, 1, rfl, _, rfl, ?_⟩
                    refine slA_init (tex s99 _ _ r2') fun pC HC sC hpC => ?_
                    have sAA := s99.trans sC
                    refine ⟨_, rfl, _, rfl, r, xv, (m : Int), m, rfl, rfl, sAA _ _ hr0, ixN_nat (by omega), ?_⟩
                    obtain ⟨w1, w2, w3⟩ := setr HC pC (X.getD m []).dropLast sAA (by rw [List.map_dropLast]; exact hpC)
                    exact ⟨true, _, rfl, upd_same, w1, w2, .inl ⟨rfl, _, ecl, w3⟩⟩
                  · have ecl : cellE h e X m = none := by
                      unfold cellE
                      rw [if_neg (by rw [he]; exact Bool.false_ne_true), if_neg hL]
                    rw [decide_eq_false hL]
                    exact iteF ⟨false, xv, rfl, s99 _ _ hr0, s08.trans s99, S8.same s99, .inr ⟨rfl, ecl⟩⟩
          · rintro σ' HD ⟨ft', rv, rfl, hrD, s0D, SD, hcase⟩
            rcases hcase with ⟨rfl, Y, ecl, rowD⟩ | ⟨rfl, ecl⟩
            · have sM : Sta h (stB B e) Y := by
                refine sta_ev hm nB eB sX ?_
                rw [stepsEv_eq]
                exact List.mem_filterMap.mpr ⟨m, List.mem_range.mpr hmh, ecl⟩
              refine ⟨_, rfl, true, rfl, iteT ⟨_, rfl, r, rv, rfl, .inl ⟨.inl (.inl hrD), fun t1 nt1 => ?_⟩⟩⟩
              have st1 := same_new (o := .tup rv) nt1
              have y1 : Dt K (upd HD t1 (.tup rv)) (.ref t1) (stD Y) := ref_new upd_same (DtAll.mono (tex st1) _ _ rowD)
              have SE := SD.same st1
              have s0E := s0D.trans st1
              have hrE := st1 _ _ hrD
              have rowE := DtAll.mono (tex st1) _ _ rowD
              generalize upd HD t1 (.tup rv) = HE at y1 SE s0E hrE rowE
              obtain ⟨vs, LE, fE, yE, dE, kE, eE⟩ := id SE
              refine ⟨_, rfl, t1, d, Y, LE, rfl, rfl, y1, dE, kE, _, rfl, ?_⟩
              have egn : addAll f ((List.range (m + 1)).filterMap (cellE h e X)) = if Y ∈ g2 then g2 else g2 ++ [Y] := by
                rw [efm, ecl]
                have sn := addAll_snoc (α := Sd Str) f ((List.range m).filterMap (cellE h e X)) Y
                rw [← eg2] at sn
                by_cases q : Y ∈ g2
                · rw [if_pos q] at sn ⊢
                  exact sn
                · rw [if_neg q] at sn ⊢
                  exact sn
              simp only [if_true, eE]
              by_cases hY : Y ∈ g2
              · rw [decide_eq_true hY]
                refine iteF ⟨_, _, _, g2, rfl, s0E, SE, ng2, sg2, ?_⟩
                rw [egn, if_pos hY]
              · rw [decide_eq_false hY]
                have gl := sta_len hm lB2 ng2 sg2
                have LEl : LE.length ≤ 1000 := by
                  have := congrArg List.length eE
                  rw [List.length_map] at this
                  omega
                refine iteT ⟨_, rfl, _, rfl, r, rv, rfl, .inl ⟨.inl (.inl hrE), fun t2 nt2 => ?_⟩⟩
                have st2 := same_new (o := .tup rv) nt2
                have y2 : Dt K (upd HE t2 (.tup rv)) (.ref t2) (stD Y) := ref_new upd_same (DtAll.mono (tex st2) _ _ rowE)
                have s0F := s0E.trans st2
                have hrF := st2 _ _ hrE
                have rowF := DtAll.mono (tex st2) _ _ rowE
                have fF := st2 _ _ fE
                have dF := st2 _ _ dE
                have yF := DtAll.mono (tex st2) _ _ yE
                have kF := kE.mono (tex st2)
                generalize upd HE t2 (.tup rv) = HF at y2 s0F hrF rowF fF dF yF kF
                refine ⟨t2, d, Y, LE, rfl, rfl, rfl, y2, dF, kF, by rw [eE]; exact hY, LEl, ?_⟩
                have mG := tupEx_ext (K := K) (o := SeenO P w d (LE ++ [(Y, t2)])) dF
                have s0G : Same H (upd HF d (SeenO P w d (LE ++ [(Y, t2)]))) := fun b o ob => by
                  rw [upd_ne (ne_of_none ob ndH)]
                  exact s0F _ _ ob
                have hrG : (upd HF d (SeenO P w d (LE ++ [(Y, t2)]))) r = some (.lst rv) := by
                  rw [upd_ne nrd.symm]
                  exact hrF
                have rowG := DtAll.mono mG _ _ rowF
                have fG : (upd HF d (SeenO P w d (LE ++ [(Y, t2)]))) fo = some (.lst vs) := by
                  rw [upd_ne nfd]
                  exact fF
                have dG : (upd HF d (SeenO P w d (LE ++ [(Y, t2)]))) d = some (SeenO P w d (LE ++ [(Y, t2)])) := upd_same
                have yG := DtAll.mono mG _ _ yF
                have kG : KeysOk K (upd HF d (SeenO P w d (LE ++ [(Y, t2)]))) (LE ++ [(Y, t2)]) := fun q hq => by
                  rcases List.mem_append.mp hq with z | z
                  · exact Dt.mono mG _ _ (kF q z)
                  · rw [List.mem_singleton.mp z]
                    exact Dt.mono mG _ _ y2
                refine ⟨_, rfl, .inl ⟨rfl, _, .inl (.inl fG)⟩, _, rfl, r, rv, rfl, .inl ⟨.inl (.inl hrG), fun t3 nt3 => ?_⟩⟩
                have st3 := same_new (o := .tup rv) nt3
                have y3 : Dt K (upd (upd HF d (SeenO P w d (LE ++ [(Y, t2)]))) t3 (.tup rv)) (.ref t3) (stD Y) := ref_new upd_same (DtAll.mono (tex st3) _ _ rowG)
                have vl := DtAll.length yG
                rw [List.length_map] at vl
                have fI := st3 _ _ fG
                have mI := tupEx_lst (K := K) (o := .lst (vs ++ [.ref t3])) fI
                refine ⟨fo, vs, _, rfl, rfl, fI, small1000 (by omega), _, _, _, g2 ++ [Y], rfl, fun b o ob => ?_, ⟨_, LE ++ [(Y, t2)], upd_same, ?_, ?_, ?_, ?_⟩, ?_, fun Z hZ => ?_, ?_⟩
                · rw [upd_ne (ne_of_none ob nfo)]
                  exact st3 _ _ (s0G _ _ ob)
                · rw [List.map_append]
                  exact DtAll.app (DtAll.mono ((tex st3).trans mI) _ _ yG) (.cons (Dt.mono mI _ _ y3) .nil)
                · rw [upd_ne nfd.symm]
                  exact st3 _ _ dG
                · exact (kG.mono (tex st3)).mono mI
                · rw [List.map_append, eE]
                  rfl
                · exact List.nodup_append.mpr ⟨ng2, List.nodup_cons.mpr ⟨List.not_mem_nil, List.nodup_nil⟩, fun a ha b hb e => by
                    rw [List.mem_singleton.mp hb] at e
                    exact hY (e ▸ ha)⟩
                · rcases List.mem_append.mp hZ with q | q
                  · exact sg2 Z q
                  · rw [List.mem_singleton.mp q]
                    exact sM
                · rw [egn, if_neg hY]
            · refine ⟨_, rfl, false, rfl, iteF (iteF ⟨_, _, _, g2, rfl, s0D, SD, ng2, sg2, ?_⟩)⟩
              rw [efm, ecl]
              exact eg2.trans (congrArg (addAll f) (List.append_nil _).symm)
      · rintro σ H5 ⟨v6, v7, v8, g, rfl, s5, S5, ng, sg', eg⟩
        have e0 : ((hV h).length : Int).toNat = h.length := by omega
        rw [e0, ← stepsEv_eq] at eg
        refine ⟨_, _, _, _, g, rfl, s5, S5, ng, sg', ?_⟩
        rw [eft, addAll_app, ← ef]
        exact eg
    · rintro σ H2 ⟨v5, v6, v7, v8, f, rfl, s3, S3, nf, sf, ef⟩
      obtain ⟨ys, L4, f4, y4, _⟩ := S3
      rw [hxl, List.take_length] at ef
      refine ⟨_, rfl, k H2 fo ys s3 f4 ?_⟩
      rw [ef] at y4
      exact y4
end
end K19
end

section
set_option Elab.async false
set_option linter.all false
set_option maxRecDepth 100000
set_option maxHeartbeats 8000000
/-! N8: trying all standings; a short stretch looked at. -/
namespace K19
open PySem L2 K19M
/-! ### the plain side -/
theorem canLay_sD : ∀ {X : Sd Str}, (∀ st ∈ X, ∀ x ∈ st, NameOk x) → PyData.canLayAll0 (X.map sD) = true
  | [], _ => by simp [PyData.canLayAll0]
  | st :: X, h => by
    simp only [List.map_cons, PyData.canLayAll0, sD, PyData.canLay0]
    rw [canLay_strs st (h st List.mem_cons_self)]
    have := canLay_sD (X := X) fun s hs => h s (List.mem_cons_of_mem _ hs)
    rw [show (X.map sD) = X.map (fun st => PyData.tuple (st.map .str)) from rfl] at this
    show (true && _) = true
    rw [Bool.true_and]
    exact this
theorem depth_sD : ∀ X : Sd Str, PyData.depthAll (X.map sD) ≤ 1
  | [] => by simp [PyData.depthAll]
  | st :: X => by
    have := depth_sD X
    simp only [List.map_cons, PyData.depthAll, sD, PyData.depth, depth_strs st]
    omega
theorem canLay_stD : ∀ {S : List (Sd Str)}, (∀ X ∈ S, ∀ st ∈ X, ∀ x ∈ st, NameOk x) → PyData.canLayAll0 (S.map stD) = true
  | [], _ => by simp [PyData.canLayAll0]
  | X :: S, h => by
    simp only [List.map_cons, PyData.canLayAll0]
    rw [canLay_stD (S := S) fun Y hY => h Y (List.mem_cons_of_mem _ hY), Bool.and_true]
    show PyData.canLay0 (.tuple (X.map sD)) = true
    simp only [PyData.canLay0]
    exact canLay_sD (h X List.mem_cons_self)
theorem depth_stD : ∀ S : List (Sd Str), PyData.depthAll (S.map stD) ≤ 2
  | [] => by simp [PyData.depthAll]
  | X :: S => by
    have h1 := depth_stD S
    have h2 := depth_sD X
    have h3 : PyData.depth (stD X) = PyData.depthAll (X.map sD) + 1 := by
      show PyData.depth (.tuple (X.map sD)) = _
      simp only [PyData.depth]
    simp only [List.map_cons, PyData.depthAll]
    omega
theorem shapedS {S : List (Sd Str)} (h : ∀ X ∈ S, ∀ st ∈ X, ∀ x ∈ st, NameOk x) : SeqAt.shaped (.list (S.map stD)) = true := by
  show (PyData.canLay0 (.list (S.map stD)) && decide (PyData.depth (.list (S.map stD)) ≤ 64)) = true
  have := depth_stD S
  simp only [PyData.canLay0, PyData.depth, canLay_stD h, Bool.true_and]
  exact decide_eq_true (by omega)
theorem eqvS_nil (S : List (Sd Str)) : PyData.eqv (.list (S.map stD)) (.list []) = decide (S = []) := by
  cases S with
  | nil => rfl
  | cons a S => rfl
theorem short_late {h : List Nat} {evs : List (Bool × Str)} {u a b : Nat} (hab : a ≤ b) (h1 : 1 ≤ owed h u) (h2 : owed h u ≤ (leavesAt ((tabOf evs).map (·.2)) a).length) :
    (stayL (tabOf evs) a b).length < owed h u ↔ nthLate (leavesAt ((tabOf evs).map (·.2)) a) (owed h u) < b := by
  rw [countP_sorted_nth h1 h2]
  have : (leavesAt ((tabOf evs).map (·.2)) a).countP (fun y => decide (b ≤ y)) = (stayL (tabOf evs) a b).length := by
    unfold leavesAt stayL
    rw [List.length_map, List.countP_map, List.filter_map, List.countP_map, List.countP_eq_length_filter, List.filter_filter]
    congr 1
    refine List.filter_congr fun e _ => ?_
    show (decide (b ≤ e.2.2) && (decide (e.2.1 ≤ a) && decide (a ≤ e.2.2))) = (decide (e.2.1 ≤ a) && decide (b ≤ e.2.2))
    by_cases z : b ≤ e.2.2
    · rw [decide_eq_true z, decide_eq_true (show a ≤ e.2.2 by omega), Bool.true_and, Bool.and_true]
    · rw [decide_eq_false z, Bool.false_and, Bool.and_false]
  rw [this]
/-- a row's facts -/
theorem row_facts {h : List Nat} (hm : h ∈ menu) {evs : List (Bool × Str)} (v : TT h.sum [] [] evs) {u : Nat} (hu : u < maxH h) {r : Nat × Nat} (hr : r ∈ rows u (cnts h.sum evs)) :
    IsRow u (cnts h.sum evs) r.1 r.2 ∧ 1 ≤ r.1 ∧ ((stayL (tabOf evs) r.1 r.2).length < owed h u ↔ nthLate (leavesAt ((tabOf evs).map (·.2)) r.1) (owed h u) < r.2) := by
  have isr : IsRow u (cnts h.sum evs) r.1 r.2 := rows_sound hr
  have hmx := menu_max h hm
  have hu3 : u < 3 := by omega
  obtain ⟨ra, _, rc⟩ := row_start hm (fun _ => 0) v hu3 isr
  exact ⟨isr, ra, short_late isr.ab ((hmx.2 u hu3).mp hu) rc⟩
theorem shorts_stuck {h : List Nat} (hm : h ∈ menu) {evs : List (Bool × Str)} (v : TT h.sum [] [] evs) : shortsL h evs = [] ↔ stuckL h evs = [] := by
  unfold shortsL stuckL stuckFound
  rw [List.flatMap_eq_nil_iff, List.flatMap_eq_nil_iff]
  have key : ∀ u ∈ List.range (maxH h), ((rows u (cnts h.sum evs)).filterMap (shortRow h (tabOf evs) u) = [] ↔ (rows u (cnts h.sum evs)).filterMap (lateRow h ((tabOf evs).map (·.2)) u) = []) := fun u hu => by
    have hu := List.mem_range.mp hu
    rw [List.filterMap_eq_nil_iff, List.filterMap_eq_nil_iff]
    have one : ∀ r ∈ rows u (cnts h.sum evs), (shortRow h (tabOf evs) u r = none ↔ lateRow h ((tabOf evs).map (·.2)) u r = none) := fun r hr => by
      obtain ⟨_, _, q⟩ := row_facts hm v hu hr
      unfold shortRow lateRow
      by_cases z : (stayL (tabOf evs) r.1 r.2).length < owed h u
      · rw [if_pos z, if_pos (q.mp z)]
        exact ⟨fun e => (nomatch e), fun e => (nomatch e)⟩
      · rw [if_neg z, if_neg (fun y => z (q.mpr y))]
        exact ⟨fun _ => rfl, fun _ => rfl⟩
    exact ⟨fun a r hr => (one r hr).mp (a r hr), fun a r hr => (one r hr).mpr (a r hr)⟩
  exact ⟨fun a u hu => (key u hu).mp (a u hu), fun a u hu => (key u hu).mpr (a u hu)⟩
theorem short_mem {h : List Nat} {evs : List (Bool × Str)} {e : Sho} (q : e ∈ shortsL h evs) : e.1 < maxH h ∧ e.2.1 ∈ rows e.1 (cnts h.sum evs) ∧ e.2.2 = sortT (stayL (tabOf evs) e.2.1.1 e.2.1.2) ∧ (stayL (tabOf evs) e.2.1.1 e.2.1.2).length < owed h e.1 := by
  obtain ⟨u, hu, q⟩ := List.mem_flatMap.mp q
  obtain ⟨r, hr, q⟩ := List.mem_filterMap.mp q
  unfold shortRow at q
  by_cases z : (stayL (tabOf evs) r.1 r.2).length < owed h u
  · rw [if_pos z] at q
    cases q
    exact ⟨List.mem_range.mp hu, hr, rfl, z⟩
  · rw [if_neg z] at q
    cases q
section
variable {P : Program} {w : World} {K : PySem.W.Frag} {mg : Str → Option Value} {base : Heap} {Z : Za}
def sp_law_tried (K : PySem.W.Frag) (Z : Za) : Sp := fun vs H Q _ => ∃ (a t : Addr) (h : List Nat) (evs : List (Bool × Str)), vs = [.ref a, .ref t] ∧ SqT K H a (hV h) ∧ h ∈ menu ∧ TimAt K H t evs ∧ TT h.sum [] [] evs ∧ (∀ e ∈ evs, NameOk e.2) ∧ evs.length ≤ 100 ∧
  ∀ H', Same H H' → (triedGo h [h.map fun _ => []] 0 evs = none → Q .non H') ∧ ∀ e, triedGo h [h.map fun _ => []] 0 evs = some e → Q (.int (e : Int)) H'
theorem c_law_tried {f : Addr} {fd : FuncData} (F : Fun K "_law_tried" "_law_tried" s_law_tried f fd) (g : mg "_law_tried" = some (.ref f)) (T : Bl mg) (c_law_spread : Cal P w K mg base 1 "_law_spread" ["_law_heights", "_law_starts"] (sp_law_spread K Z)) (c_law_after : Cal P w K mg base 1 "_law_after" ["_law_heights", "_law_standings", "_law_event"] (sp_law_after K Z))  : Cal P w K mg base 2 "_law_tried" ["_law_heights", "_law_events_here"] (sp_law_tried K Z) := by
  refine ⟨f, fd, g, F.kp, F.binds (ps := ["_law_heights", "_law_events_here"]) fun _ _ _ _ _ _ us hl => match us, hl with | [_, _], _ => rfl, F.ok sc_law_tried (fun vs H Q E h => ?_) (fun cdv A outer s H vs Q E hr h => ?_)⟩
  · obtain ⟨a, t, h, evs, rfl, _⟩ := h
    rfl
  · obtain ⟨a, t, h, evs, rfl, ha, hm, ⟨xs, hx, hd⟩, tt, nok, hl, k⟩ := h
    have h4 := menu_4 h hm
    have h5 := menu_sum h hm
    have hlh := hV_len h
    have hxl := DtAll.length hd
    rw [List.length_map] at hxl
    refine ⟨_, (pss_cons (ps_set (i := 2) sc_law_tried.nd rfl (.inl rfl) (pe_lst (pa_cons (pe_callTy call_tuple_of (by rfl) T.b_tuple (by decide +kernel) (pa_cons (pe_lc (g := (gName 4)) (own := [("_law_height", 4)]) rfl sc_law_tried.nd (pi_tup (pv 0)) (blkOk_by (own := [("_law_height", 4)]) (N := n_law_tried) (sc := defScope s_law_tried) (by decide +kernel)) (fun _ _ _ _ _ => (pg_name (i := 4) sc_law_tried.nd rfl (.inl rfl) (.inr rfl))) (fun _ _ _ _ _ => pts_nil) (fun _ _ _ _ _ => (pe_tup pa_nil))) pa_nil)) pa_nil)))
      (pss_cons (ps_for PassesOwn.never rfl (pi_range1 (by rfl) T.b_range (pa_cons (pe_callB call_len_seq (by rfl) T.b_len PySem.boot_len (pa_cons (pv 1) pa_nil)) pa_nil)) (pg_name (i := 3) sc_law_tried.nd rfl (.inl rfl))
        (pss_cons (ps_set (i := 2) sc_law_tried.nd rfl (.inl rfl) (pe_cal c_law_after (hr.mono (by decide)) (by rfl) (pa_cons (pv 0) (pa_cons (pe_cal c_law_spread (hr.mono (by decide)) (by rfl) (pa_cons (pv 0) (pa_cons (pv 2) pa_nil))) (pa_cons (pe_ix ix_tup (pv 1) (pv 3) (fun _ _ => rfl)) pa_nil)))))
        (pss_one (ps_if (pt_cmpR (op_eqD hr.units) (pv 2) (pe_lst pa_nil) (nomark _))
          (pss_one (ps_ret (pv 3)))
          pss_nil))))
      (pss_one (ps_ret pe_non)))), ?_⟩
    refine ⟨_, rfl, a, rfl, ⟨_, ha⟩, fun D nD => ?_⟩
    refine lc_it walk_tup (fun i H2 => Same H H2 ∧ ∃ acc, H2 D = some (.lst acc) ∧ DtAll K H2 acc (((h.take i).map fun _ => ([] : List Str)).map sD) ∧ acc.length ≤ i) ⟨same_new nD, [], upd_same, .nil, Nat.le_refl _⟩ (fun i H2 _ z => tex z.1 _ _ ha) ?_ ?_
    · rintro i x H2 H3 hi ⟨s2, acc, d2, a2, al⟩ ⟨rfl, hxi⟩
      have hil : i < h.length := by omega
      have hie : h[i]? = some h[i] := List.getElem?_eq_getElem hil
      refine ⟨rfl, Nat.zero_le _, fun q nq => ?_⟩
      have s3 := same_new (o := .tup []) nq
      have d3 := s3 _ _ d2
      have m := tupEx_lst (K := K) (o := .lst (acc ++ [.ref q])) d3
      refine ⟨acc, d3, small1000 (by omega), fun b o ob => ?_, acc ++ [.ref q], upd_same, ?_, by rw [List.length_append, List.length_singleton]; omega⟩
      · rw [upd_ne (ne_of_none ob nD)]
        exact s3 _ _ (s2 _ _ ob)
      · rw [List.take_add_one, hie, List.map_append, List.map_append]
        exact DtAll.app (DtAll.mono ((tex s3).trans m) _ _ a2) (.cons (Dt.mono m _ _ (sd_new (st := []) (.inl (.inl upd_same)))) .nil)
    · rintro H2 ⟨s2, acc, d2, a2, al⟩
      rw [hlh, List.take_length] at a2
      refine ⟨D, acc, rfl, .inl ⟨.inl (.inl d2), fun q nq => ⟨(by show 1 ≤ sizeLine; decide), fun c nc => ?_⟩⟩⟩
      have s3 := same_new (o := .tup acc) nq
      have s4 := same_new (o := .lst [.ref q]) nc
      have y1 : Dt K (upd H2 q (.tup acc)) (.ref q) (stD (h.map fun _ => [])) := ref_new upd_same (DtAll.mono (tex s3) _ _ a2)
      have s0 := s2.trans (s3.trans s4)
      refine ⟨_, rfl, t, _, rfl, .inr (tex s0 _ _ hx), (xs.length : Int), rfl, by omega, by omega, for_it walk_range (fun i σ H5 => ∃ v3 cc ys S B, σ = [some (.ref a), some (.ref t), some (.ref cc), v3, none] ∧ Same H H5 ∧ H5 cc = some (.lst ys) ∧ DtAll K H5 ys (S.map stD) ∧ S.Nodup ∧ B.Nodup ∧ B.length ≤ 5 ∧ (∀ x ∈ B, NameOk x) ∧ (∀ Z ∈ S, Sta h B Z) ∧
        Valid 5 B (evs.drop i) ∧ triedGo h [h.map fun _ => []] 0 evs = triedGo h S i (evs.drop i))
        ⟨_, c, _, [h.map fun _ => []], [], rfl, s0, upd_same, .cons (Dt.mono (tex s4) _ _ y1) .nil, List.nodup_cons.mpr ⟨List.not_mem_nil, List.nodup_nil⟩, List.nodup_nil, Nat.zero_le _, (fun x hx => nomatch hx), (fun Z hZ => by rw [List.mem_singleton.mp hZ]; exact sta_empty h), h5 ▸ tt.valid (fun x hx => nomatch hx), rfl⟩ (fun i σ H5 _ _ => trivial) ?_ ?_⟩
      · rintro i x σ H5 H6 hi ⟨v3, cc, ys, S, B, rfl, s5, c5, y5, nS, nB, lB, bok, sS, va, et⟩ ⟨eH, hxi⟩
        have eH := eH.symm
        subst eH
        obtain rfl : x = V.int (i : Int) := hxi.trans (congrArg V.int (Int.zero_add _))
        have hi' : i < xs.length := by
          have : i < (xs.length : Int).toNat := hi
          omega
        have hxe : xs[i]? = some xs[i] := List.getElem?_eq_getElem hi'
        obtain ⟨b, hb, dt⟩ := DtAll.get hd hxe
        rw [List.getElem?_map] at hb
        obtain ⟨e, he, rfl⟩ := Option.map_eq_some_iff.mp hb
        obtain ⟨te, ete, sq⟩ := ev_inv dt
        have hil := (List.getElem?_eq_some_iff.mp he).1
        have hdrop : evs.drop i = e :: evs.drop (i + 1) := by
          rw [List.drop_eq_getElem_cons hil, (List.getElem?_eq_some_iff.mp he).2]
        rw [hdrop] at va et
        obtain ⟨va1, va2⟩ := va
        have eok := nok e (List.mem_of_getElem? he)
        have eB : e.1 = true → B.length < 5 := fun z => by
          rw [if_pos z] at va1
          exact va1.2
        refine ⟨_, rfl, _, rfl, _, rfl, a, cc, ys, h, S, B, rfl, tex s5 _ _ ha, hm, c5, y5, nS, nB, lB, bok, sS, fun H7 p7 zs7 s7 h7 y7 => ?_⟩
        have sSp := sta_spread hm ("" : Str) sS
        have s57 := s5.trans s7
        refine ⟨_, rfl, _, rfl, t, _, (i : Int), _, rfl, rfl, tex s57 _ _ hx, atI_nat (by rw [hxe, ete]), a, p7, te, zs7, h, spread h S, B, e, rfl, tex s57 _ _ ha, hm, h7, y7, nB, lB, bok, sSp, tex s57 _ _ sq, eok, eB, fun H8 p8 zs8 s8 h8 y8 => ?_⟩
        have s58 := s57.trans s8
        have sA : ∀ Z ∈ after h (spread h S) e, Sta h (stB B e) Z := fun Z hZ => by
          obtain ⟨X, hX, hZ⟩ := mem_after.mp hZ
          exact sta_ev hm nB eB (sSp X hX) hZ
        have nA : (after h (spread h S) e).Nodup := nodup_addAll _ _ List.nodup_nil
        have lB2 := stB_len lB eB
        have nB2 : (stB B e).Nodup := by
          obtain ⟨b, y⟩ := e
          cases b with
          | true =>
            have := va1.1
            exact List.nodup_append.mpr ⟨nB, List.nodup_cons.mpr ⟨List.not_mem_nil, List.nodup_nil⟩, fun a ha b hb e => by
              rw [List.mem_singleton.mp hb] at e
              exact this (e ▸ ha)⟩
          | false => exact nB.erase y
        have bok2 : ∀ x ∈ stB B e, NameOk x := fun x hx => by
          obtain ⟨b, y⟩ := e
          cases b with
          | true =>
            rcases List.mem_append.mp hx with q | q
            · exact bok x q
            · rw [List.mem_singleton.mp q]
              exact eok
          | false => exact bok x (List.mem_of_mem_erase hx)
        have allok : ∀ X ∈ after h (spread h S) e, ∀ st ∈ X, ∀ x ∈ st, NameOk x := fun X hX st hst x hx => bok2 x ((sA X hX).2.mem_iff.mp (List.mem_flatten.mpr ⟨st, hst, hx⟩))
        have ets1 : after h (spread h S) e = [] → triedGo h S i (e :: evs.drop (i + 1)) = some i := fun z => by
          unfold triedGo
          rw [z]
        have ets2 : ∀ s ss, after h (spread h S) e = s :: ss → triedGo h S i (e :: evs.drop (i + 1)) = triedGo h (s :: ss) (i + 1) (evs.drop (i + 1)) := fun s ss z => by
          conv => lhs; unfold triedGo
          rw [z]
        generalize after h (spread h S) e = S2 at y8 sA nA allok ets1 ets2
        refine ⟨_, rfl, Nat.zero_le _, fun u nu => ?_⟩
        have s9 := same_new (o := .lst []) nu
        have y9 := DtAll.mono (tex s9) _ _ y8
        have h9 := s9 _ _ h8
        refine ⟨.list (S2.map stD), .list [], .lst (.inl (.inl h9)) (DtAll.dp _ _ y9), .lst (.inl (.inl upd_same)) .nil, shapedS allok, shapedS (S := []) (fun X hX => nomatch hX), _, rfl, ?_⟩
        rw [eqvS_nil]
        cases S2 with
        | nil =>
          rw [decide_eq_true rfl]
          exact iteT ⟨_, rfl, (k _ (s58.trans s9)).2 i (et.trans (ets1 rfl))⟩
        | cons s ss =>
          rw [decide_eq_false (List.cons_ne_nil _ _)]
          exact iteF ⟨_, p8, zs8, s :: ss, stB B e, rfl, s58.trans s9, h9, y9, nA, nB2, lB2, bok2, sA, va2, et.trans (ets2 s ss rfl)⟩
      · rintro σ H5 ⟨v3, cc, ys, S, B, rfl, s5, c5, y5, nS, nB, lB, bok, sS, va, et⟩
        have e0 : (xs.length : Int).toNat = evs.length := by omega
        rw [e0, List.drop_length] at et
        exact (k H5 s5).1 et
end
end K19
end

section
set_option Elab.async false
set_option linter.all false
set_option maxRecDepth 100000
set_option maxHeartbeats 8000000
/-! N9: a short stretch looked at. -/
namespace K19
open PySem L2 K19M
theorem eqvAll_strs : ∀ xs : List Str, PyData.eqvAll (xs.map PyData.str) (xs.map PyData.str) = true
  | [] => rfl
  | x :: xs => by
    show ((x == x) && PyData.eqvAll (xs.map PyData.str) (xs.map PyData.str)) = true
    rw [eqvAll_strs xs, Bool.and_true]
    exact beq_self_eq_true x
theorem sne1 : ¬ (("stretch" : Str) = "cover") := by decide +kernel
theorem sne2 : ¬ (("stayers" : Str) = "cover") := by decide +kernel
theorem sne3 : ¬ (("stayers" : Str) = "stretch") := by decide +kernel
theorem look1 (a b c : V) : List.lookup ("cover" : Str) ([("cover", a), ("stretch", b), ("stayers", c)] : List (Str × V)) = some a := List.lookup_cons_self
theorem look2 (a b c : V) : List.lookup ("stretch" : Str) ([("cover", a), ("stretch", b), ("stayers", c)] : List (Str × V)) = some b := by
  rw [List.lookup_cons, beq_eq_false_iff_ne.mpr sne1]
  exact List.lookup_cons_self
theorem look3 (a b c : V) : List.lookup ("stayers" : Str) ([("cover", a), ("stretch", b), ("stayers", c)] : List (Str × V)) = some c := by
  rw [List.lookup_cons, beq_eq_false_iff_ne.mpr sne2]
  show List.lookup ("stayers" : Str) ([("stretch", b), ("stayers", c)] : List (Str × V)) = some c
  rw [List.lookup_cons, beq_eq_false_iff_ne.mpr sne3]
  exact List.lookup_cons_self
section
variable {P : Program} {w : World} {K : PySem.W.Frag} {mg : Str → Option Value} {base : Heap} {Z : Za}
def sp_law_short (K : PySem.W.Frag) (Z : Za) : Sp := fun vs H Q _ => ∃ (a t x : Addr) (h : List Nat) (evs : List (Bool × Str)) (e : Sho), vs = [.ref a, .ref t, .ref x] ∧ SqT K H a (hV h) ∧ h ∈ menu ∧ TimAt K H t evs ∧ TT h.sum [] [] evs ∧ (∀ e ∈ evs, NameOk e.2) ∧ evs.length ≤ 100 ∧
  ShortAt K Z H x e ∧ e ∈ shortsL h evs ∧ ∀ H', Same H H' → Q (.bl true) H'
theorem c_law_short {f : Addr} {fd : FuncData} (F : Fun K "_law_short" "_law_short" s_law_short f fd) (g : mg "_law_short" = some (.ref f)) (T : Bl mg) (c_law_free : Cal P w K mg base 1 "_law_free" ["_law_heights", "_law_events_here"] (sp_law_free K Z)) (c_law_book : Cal P w K mg base 1 "_law_book" ["_law_events_here"] (sp_law_book K Z)) (c_law_stay : Cal P w K mg base 2 "_law_stay" ["_law_book_here", "_law_stretch"] (sp_law_stay K Z))  (C : Cf K Z) : Cal P w K mg base 3 "_law_short" ["_law_heights", "_law_events_here", "_law_paper"] (sp_law_short K Z) := by
  refine ⟨f, fd, g, F.kp, F.binds (ps := ["_law_heights", "_law_events_here", "_law_paper"]) fun _ _ _ _ _ _ us hl => match us, hl with | [_, _, _], _ => rfl, F.ok sc_law_short (fun vs H Q E h => ?_) (fun cdv A outer s H vs Q E hr h => ?_)⟩
  · obtain ⟨a, t, x, h, evs, e, rfl, _⟩ := h
    rfl
  · obtain ⟨a, t, x, h, evs, e, rfl, ha, hm, ht, tt, nok, hl, sx, he, k⟩ := h
    obtain ⟨u, ⟨fs, la⟩, lot⟩ := e
    obtain ⟨hu3, hrow, hlot, hlt⟩ := short_mem he
    obtain ⟨isr, ha1, _⟩ := row_facts hm tt hu3 hrow
    have isr : IsRow u (cnts h.sum evs) fs la := isr
    have hab : fs ≤ la := isr.ab
    have hbl : la < (cnts h.sum evs).length := isr.bl
    have hcl := cnts_len evs h.sum
    have ha1 : 1 ≤ fs := ha1
    have hlen12 := (menu_ok h hm).l12
    obtain ⟨dx, s, l, hx, hs, hll⟩ := sx
    have hx : H x = some (.ins Z.S dx [("cover", .int (u : Int)), ("stretch", .ref s), ("stayers", .ref l)]) := hx
    have hs : SqT K H s [.int (fs : Int), .int (la : Int)] := hs
    have hlot : lot = sortT (stayL (tabOf evs) fs la) := hlot
    have hlt : (stayL (tabOf evs) fs la).length < owed h u := hlt
    subst hlot
    refine ⟨_, (pss_cons (ps_asg (pe_fld (pv 2) rfl) (pg_tup rfl (pgs_cons (pg_name (i := 3) sc_law_short.nd rfl (.inl rfl)) (pgs_cons (pg_name (i := 4) sc_law_short.nd rfl (.inl rfl)) pgs_nil))))
      (pss_cons (ps_set (i := 5) sc_law_short.nd rfl (.inr rfl) (pe_cal c_law_free (hr.mono (by decide)) (by rfl) (pa_cons (pv 0) (pa_cons (pv 1) pa_nil))))
      (pss_cons (ps_if (pt_cmpR (op_neD hr.units) (pe_lc (g := (gName 7)) (own := [("_law_state", 7)]) rfl sc_law_short.nd (pi_range2 (by rfl) T.b_range (pa_cons (pv 3) (pa_cons (pe_op op_add (pv 4) pe_int) pa_nil))) (blkOk_by (own := [("_law_state", 7)]) (N := n_law_short) (sc := defScope s_law_short) (by decide +kernel)) (fun _ _ _ _ _ => (pg_name (i := 7) sc_law_short.nd rfl (.inl rfl) (.inr rfl))) (fun _ _ _ _ _ => (pts_one (pt_cmpR op_gt (pe_ix (ixK_list (K := K) rfl) (pv 5) (pv 7) (fun _ _ => rfl)) (pe_fldK (K := K) rfl (pv 2) rfl) (nomark _)))) (fun _ _ _ _ _ => (pv 7))) (pe_lst pa_nil) (nomark _))
        (pss_one (ps_ret pe_bl))
        pss_nil)
      (pss_cons (ps_if (pt_cut (PW.pt (pw_or (pt_cmpR op_le (pe_ix ix_list (pv 5) (pe_op op_sub (pv 3) pe_int) (fun _ _ => rfl)) (pe_fld (pv 2) rfl) (nomark _)) (pw_or1 (PW.pt (pw_and (pt_cmpR op_lt (pe_op op_add (pv 4) pe_int) (pe_callB call_len_seq (by rfl) T.b_len PySem.boot_len (pa_cons (pv 5) pa_nil)) (nomark _)) (pw_and1 (pt_cmpR op_le (pe_ix ix_list (pv 5) (pe_op op_add (pv 4) pe_int) (fun _ _ => rfl)) (pe_fld (pv 2) rfl) (nomark _)))))))))
        (pss_one (ps_ret pe_bl))
        pss_nil)
      (pss_cons (ps_set (i := 6) sc_law_short.nd rfl (.inl rfl) (pe_cal c_law_stay (hr.mono (by decide)) (by rfl) (pa_cons (pe_cal c_law_book (hr.mono (by decide)) (by rfl) (pa_cons (pv 1) pa_nil)) (pa_cons (pe_tup (pa_cons (pv 3) (pa_cons (pv 4) pa_nil))) pa_nil))))
      (pss_one (ps_ret (pe_and (pe_cmpR (op_eqD hr.units) (pe_fld (pv 2) rfl) (pv 6) (nomark _)) (pe_one (pe_cmpR op_lt (pe_callB call_len_seq (by rfl) T.b_len PySem.boot_len (pa_cons (pv 6) pa_nil)) (pe_callB (cr_sum rfl) (by rfl) T.b_sum (by decide +kernel) (pa_cons (pe_lc (g := (gName 8)) (own := [("_law_height", 8)]) rfl sc_law_short.nd (pi_tup (pv 0)) (blkOk_by (own := [("_law_height", 8)]) (N := n_law_short) (sc := defScope s_law_short) (by decide +kernel)) (fun _ _ _ _ _ => (pg_name (i := 8) sc_law_short.nd rfl (.inl rfl) (.inr rfl))) (fun _ _ _ _ _ => pts_nil) (fun _ _ _ _ _ => (pe_callB (call_max2 rfl) (by rfl) T.b_max (by decide +kernel) (pa_cons pe_int (pa_cons (pe_op op_sub (pv 8) (pe_fldK (K := K) rfl (pv 2) rfl)) pa_nil))))) pa_nil)) (nomark _))))))))))), ?_⟩
    refine ⟨_, rfl, x, Z.S, dx, _, _, rfl, hx, C.sc, C.s2, look2 _ _ _, s, _, rfl, hs, rfl, _, _, rfl, _, _, rfl, rfl, ?_⟩
    refine ⟨_, rfl, _, rfl, a, t, h, evs, rfl, ha, ht, tt, hl, fun H1 c s1 hc => ?_⟩
    have SC : SqL K H1 c (hV (cnts h.sum evs)) := .inl (.inl hc)
    have cat : ∀ i, i < (cnts h.sum evs).length → (cnts h.sum evs)[i]? = some ((cnts h.sum evs).getD i 0) := fun i hi => by
      rw [List.getD_eq_getElem?_getD, List.getElem?_eq_getElem hi]
      rfl
    -- the stretch is low
    refine ⟨_, rfl, _, rfl, _, _, rfl, rfl, (fs : Int), (la : Int) + 1, rfl, ⟨by omega, by omega, by omega, by omega⟩, fun D nD => ?_⟩
    refine lc_it walk_range (fun i H2 => Same H1 H2 ∧ H2 D = some (.lst [])) ⟨same_new nD, upd_same⟩ (fun i H2 _ _ => trivial) ?_ ?_
    · rintro i y H2 H3 hi ⟨s2, d2⟩ ⟨rfl, rfl⟩
      have hi' : i < ((la : Int) + 1 - (fs : Int)).toNat := hi
      have hil : fs + i < (cnts h.sum evs).length := by omega
      have hle := isr.le (fs + i) _ (Nat.le_add_right _ _) (show fs + i ≤ la by omega) (cat _ hil)
      have ei : (fs : Int) + (i : Int) = ((fs + i : Nat) : Int) := by omega
      refine ⟨rfl, _, rfl, _, rfl, c, _, (fs : Int) + (i : Int), _, rfl, rfl, .inl (.inl (s2 _ _ hc)), by rw [ei]; exact atI_nat (hV_at (cat _ hil)), _, rfl, x, Z.S, dx, _, _, rfl, s2 _ _ (s1 _ _ hx), C.sc, C.s1, look1 _ _ _, _, _, rfl, rfl, _, rfl, ite2 (fun z => ?_) fun z => ⟨s2, d2⟩⟩
      exfalso
      have := of_decide_eq_true z
      omega
    · rintro H2 ⟨s2, d2⟩
      refine ⟨Nat.zero_le _, fun e1 ne1 => ?_⟩
      have s3 := same_new (o := .lst []) ne1
      refine ⟨.list [], .list [], .lst (.inl (.inl (s3 _ _ d2))) .nil, .lst (.inl (.inl upd_same)) .nil, PySem.W.shaped_ints [], PySem.W.shaped_ints [], false, rfl, iteF ?_⟩
      have s13 := s1.trans (s2.trans s3)
      have c3 := s3 _ _ (s2 _ _ hc)
      generalize upd H2 e1 (.lst []) = H3 at s13 c3
      have SC3 : SqL K H3 c (hV (cnts h.sum evs)) := .inl (.inl c3)
      have hx3 := s13 _ _ hx
      -- it is as long as it can be
      have lo : u < (cnts h.sum evs).getD (fs - 1) 0 := by
        rcases isr.lo with z | ⟨cc, z1, z2⟩
        · have z : fs = 0 := z
          omega
        · rw [cat (fs - 1) (by omega)] at z1
          have := Option.some.inj z1
          omega
      have hi0 : la + 1 < (cnts h.sum evs).length → u < (cnts h.sum evs).getD (la + 1) 0 := fun q => by
        rcases isr.hi with z | ⟨cc, z1, z2⟩
        · have z : la + 1 = (cnts h.sum evs).length := z
          omega
        · have z1 : (cnts h.sum evs)[la + 1]? = some cc := z1
          rw [cat (la + 1) q] at z1
          have := Option.some.inj z1
          omega
      have e1 : (fs : Int) - 1 = ((fs - 1 : Nat) : Int) := by omega
      have e2 : (la : Int) + 1 = ((la + 1 : Nat) : Int) := by omega
      have hvl := hV_len (cnts h.sum evs)
      refine ⟨fun b H' => b = false ∧ H' = H3, ?_, ?_⟩
      · refine ⟨_, rfl, _, rfl, _, _, rfl, rfl, c, _, (fs : Int) - 1, _, rfl, rfl, SC3, by rw [e1]; exact atI_nat (hV_at (cat _ (by omega))), _, rfl, x, Z.S, dx, _, _, rfl, hx3, C.sc, C.s1, look1 _ _ _, _, _, rfl, rfl, false, blF (by omega), iteF ?_⟩
        refine ⟨_, rfl, _, _, rfl, rfl, _, rfl, c, _, rfl, .inl SC3, _, _, rfl, rfl, _, rfl, ite2 (fun z => ?_) fun z => ⟨rfl, rfl⟩⟩
        have hq : la + 1 < (cnts h.sum evs).length := by
          have : (la : Int) + 1 < ((hV (cnts h.sum evs)).length : Int) := of_decide_eq_true z
          omega
        have := hi0 hq
        exact ⟨_, rfl, _, rfl, _, _, rfl, rfl, c, _, (la : Int) + 1, _, rfl, rfl, SC3, by rw [e2]; exact atI_nat (hV_at (cat _ hq)), _, rfl, x, Z.S, dx, _, _, rfl, hx3, C.sc, C.s1, look1 _ _ _, _, _, rfl, rfl, false, blF (by omega), rfl, rfl⟩
      · rintro b H' ⟨rfl, rfl⟩
        refine iteF ⟨_, rfl, t, h.sum, evs, rfl, ht.mono (tex s13), tt, hl, fun H4 d s4 nd hd => ?_⟩
        have s14 := s13.trans s4
        refine ⟨_, rfl, _, rfl, two, fun q nq => ?_⟩
        have s5 := same_new (o := .tup [.int (fs : Int), .int (la : Int)]) nq
        have bk := book_of (fun _ => 0) tt
        refine ⟨d, q, tabOf evs, fs, la, rfl, hd.same s5, .inl (.inl upd_same), bk.nd, Nat.le_trans (tabOf_len evs) hl, fun H6 p s6 hp => ?_⟩
        have s16 := (s14.trans s5).trans s6
        have okl : ∀ y ∈ sortT (stayL (tabOf evs) fs la), NameOk y := fun y hy => by
          have h1 := (sortT_perm _).mem_iff.mp hy
          obtain ⟨⟨y', cc, ll⟩, h2, rfl⟩ := List.mem_map.mp h1
          have h3 := (bk.came y' cc ll (List.mem_filter.mp h2).1).2.2
          exact nok _ (List.mem_of_getElem? h3)
        have lots : (sortT (stayL (tabOf evs) fs la)).length = (stayL (tabOf evs) fs la).length := (sortT_perm _).length_eq
        refine ⟨_, rfl, x, Z.S, dx, _, _, rfl, s16 _ _ hx, C.sc, C.s3, look3 _ _ _, _, rfl, .tuple ((sortT (stayL (tabOf evs) fs la)).map PyData.str), .tuple ((sortT (stayL (tabOf evs) fs la)).map PyData.str), .tup (tex s16 _ _ hll) (DtAll.dp _ _ (DtAll.of_strs _)), .tup hp (DtAll.dp _ _ (DtAll.of_strs _)), shapedT okl, shapedT okl, true, congrArg V.bl (eqvAll_strs _), iteT ?_⟩
        refine ⟨_, rfl, p, _, rfl, .inr hp, _, rfl, a, rfl, ⟨_, tex s16 _ _ ha⟩, fun D2 nD2 => ?_⟩
        refine lc_it walk_tup (fun i H7 => Same H6 H7 ∧ H7 D2 = some (.lst ((zs ((h.take i).map fun n => n - u)).map V.int))) ⟨same_new nD2, upd_same⟩ (fun i H7 _ z => tex z.1 _ _ (tex s16 _ _ ha)) ?_ ?_
        · rintro i y H7 H8 hi ⟨s7, d7⟩ ⟨rfl, e7⟩
          obtain ⟨n, hn, rfl⟩ := hV_get e7
          have hil : i < h.length := (List.getElem?_eq_some_iff.mp hn).1
          refine ⟨rfl, _, rfl, _, rfl, x, Z.S, dx, _, _, rfl, s7 _ _ (s16 _ _ hx), C.sc, C.s1, look1 _ _ _, _, _, rfl, rfl, _, _, rfl, _, d7, ?_, fun b o ob => ?_, ?_⟩
          · unfold zs
            rw [List.length_map, List.length_map, List.length_map, List.length_take]
            exact small1000 (by omega)
          · rw [upd_ne (ne_of_none ob nD2)]
            exact s7 _ _ ob
          · rw [upd_same, owed_take u hn, List.map_append]
            congr 3
            show [V.int (if (n : Int) - (u : Int) > 0 then (n : Int) - (u : Int) else 0)] = [V.int ((n - u : Nat) : Int)]
            congr 2
            split <;> omega
        · rintro H7 ⟨s7, d7⟩
          refine ⟨D2, _, rfl, .inl (.inl d7), _, _, rfl, rfl, ?_⟩
          rw [hV_len, List.take_length, zs_sum]
          have lt : (((sortT (stayL (tabOf evs) fs la)).map V.str).length : Int) < ((((h.map fun n => n - u).sum : Nat)) : Int) := by
            rw [List.length_map, lots]
            exact Int.ofNat_lt.mpr hlt
          exact qT lt (k H7 (s16.trans s7))
end
end K19
end

section
set_option Elab.async false
set_option linter.all false
set_option maxRecDepth 100000
set_option maxHeartbeats 8000000
/-! N10: the law. -/
namespace K19
open PySem L2 K19M
/-! ### rules -/
section
variable {X : Cx} {k : Nat} {sp : Sp} {x : Str} {p pos : Pos}
theorem call_repr_any : CallR X (.builtin "repr") (fun xs H Q => (∃ i, xs = [.int i] ∧ i.natAbs.log2 < 1920 ∧ Q (.str (toString i)) H) ∨ (xs = [.non] ∧ Q (.str "None") H)) := by
  intro pins s σ H xs us Q I r h
  rcases h with h | h
  · exact SkE.call_repr_int pins s σ H xs us Q I r h
  · exact call_repr_none pins s σ H xs us Q I r h
def tCallN0 (m : Nat) (sp : Sp) (gV : List V → List V → List V) (E : XK) (tk : TA) : TE := fun σ H Q => tk σ H fun zs H2 => zs.length = m ∧ sp (gV [] zs) H2 Q E
/-- a def that is called by its keywords alone -/
structure CalK (P : Program) (w : World) (K : PySem.W.Frag) (mg : Str → Option Value) (base : Heap) (k : Nat) (x : Str) (ps ks : List Str) (g : List Value → List Value → List Value) (gV : List V → List V → List V) (sp : Sp) : Prop where
  ex : ∃ (f : Addr) (fd : FuncData), mg x = some (.ref f) ∧ PySem.W.keepIn K (.ref f) = true ∧ KBn K fd ps 0 ks g gV ∧ FnOk P w K mg base CX0 k f fd ps sp
theorem pe_calk {ps ks : List Str} {g : List Value → List Value → List Value} {gV : List V → List V → List V} {kws : List Keyword} {tk : TA} (c : CalK X.prog X.w X.K X.mg X.base k x ps ks g gV sp) (hr : Room k X.A) (hg : Gl X x) (hkw : PK X kws tk)
    (hall : (backToKw pos (keywordEach kws X.env)).all (·.1.isSome) = true := by rfl) (hks : (backToKw pos (keywordEach kws X.env)).filterMap (·.1) = ks := by rfl) (hdb : (x == ("__debug__" : Str)) = false := by decide)
    (hpl : ((backTo pos (starEach [] X.env)).any (·.1) || (backToKw pos (keywordEach kws X.env)).any (·.1.isNone)) = false := by rfl) :
    PE X (.Call (.Name x p) [] kws pos) (tCallN0 ks.length sp gV E0 tk) := by
  obtain ⟨f, fd, hm, kp, hb, F⟩ := c.ex
  refine ⟨fun pins s σ H Q I h => ?_⟩
  refine wpAny_Call_Name_kw (ld_glob I hg hm ?_ hdb)
  refine PySem.W.callWith_KW0 (h₀ := X.base) I.ok.mod.kin kp hall ?_ hpl
  refine thn (hkw.run pos pins s σ H _ I h) fun ws s2 ⟨zs, H2, I2, rz, l2, q2⟩ => ⟨I2.kIn, ?_⟩
  rw [hks]
  exact run_fnN (us := []) (vs := []) F hr hb pass0 I2 .nil rz rfl l2 q2
end
def gSw {β : Type} (_ : List β) (ws : List β) : List β := match ws with
  | [a, b] => [b, a]
  | _ => []
theorem vals_sw {vs : List V} {us : List Value} {zs : List V} {ws : List Value} (_ : Vals vs us) (r : Vals zs ws) : Vals (gSw vs zs) (gSw us ws) := by
  cases r with
  | nil => exact .nil
  | cons r1 r =>
    cases r with
    | nil => exact .nil
    | cons r2 r =>
      cases r with
      | nil => exact .cons r2 (.cons r1 .nil)
      | cons _ _ => exact .nil
theorem kb_stuck {K : PySem.W.Frag} {f : Addr} {fd : FuncData} (F : Fun K "stuck_event" "stuck_event" s_stuck_event f fd) : KBn K fd ["yard", "timetable"] 0 ["timetable", "yard"] gSw gSw := by
  refine ⟨fun s us ws _ hu hw => ?_, vals_sw⟩
  obtain ⟨oc, od, kV, doc, pm, an, cdv, ct, osl, rfl, lk, hcd⟩ := F.ex
  match us, ws, hu, hw with
  | [], [a, b], _, _ => exact .of_eq rfl
/-! ### Dealt by its own == -/
def eqR (K : PySem.W.Frag) (Z : Za) (a b : Addr) (H : Hp) : Prop := ∃ d, DealtAt K Z H a d ∧ DealtAt K Z H b d ∧ SeqAt.shaped d = true
def sp_Dealt_eq (K : PySem.W.Frag) (Z : Za) : Sp := spEq (eqR K Z)
/-- what isinstance asks of the classes -/
structure Ci (K : PySem.W.Frag) (Z : Za) : Prop where
  hD : PySem.W.findIn K (.ref Z.D) "__class__" = some (some (.builtin "object.__class__"))
  hS : PySem.W.findIn K (.ref Z.S) "__class__" = some (some (.builtin "object.__class__"))
  hn : PySem.W.specialIn K (.builtin "object.__class__") "__get__" = some (some (.builtin "getset_descriptor.__get__"))
  ht : PySem.W.takesIn K (.builtin "object.__class__") = some true
  mD : PySem.W.mroIn K Z.D (.type "object") = some true
  mS : PySem.W.mroIn K Z.S (.type "object") = some true
  kDD : PySem.W.kitOne K (.ref Z.D) (.ref Z.D) = some true
  kDS : PySem.W.kitOne K (.ref Z.D) (.ref Z.S) = some false
  kSS : PySem.W.kitOne K (.ref Z.S) (.ref Z.S) = some true
  kSD : PySem.W.kitOne K (.ref Z.S) (.ref Z.D) = some false
section
variable {P : Program} {w : World} {K : PySem.W.Frag} {mg : Str → Option Value} {base : Heap} {Z : Za}
theorem lookT {v : V} : List.lookup ("table" : Str) [("table", v)] = some v := List.lookup_cons_self
structure MkG (mg : Str → Option Value) (x : Str) (C : Addr) : Prop where
  g : mg x = some (.ref C)
theorem q_Dealt {f : Addr} {fd : FuncData} (F : Fun K "__eq__" "Dealt.__eq__" s_Dealt__eq f fd) (T : Bl mg)   (C : Cf K Z) (I : Ci K Z) (m_Dealt : MkG mg "Dealt" Z.D) : FnOk P w K mg base CX0 1 f fd ["self", "other"] (sp_Dealt_eq K Z) := by
  refine F.ok sc_Dealt__eq (fun vs H Q E h => ?_) (fun cdv A outer s H vs Q E hr h => ?_)
  · obtain ⟨a, b, rfl, _⟩ := h
    rfl
  · obtain ⟨a, b, rfl, ⟨d, ⟨dx, v, ha, da⟩, ⟨dy, v', hb, db⟩, sh⟩, k⟩ := h
    refine ⟨_, (pss_one (ps_ret (pe_and (pe_callB call_isi (by rfl) T.b_isinstance (by decide +kernel) (pa_cons (pv 1) (pa_cons (pe_glob (v := .ref Z.D) rfl m_Dealt.g rfl) pa_nil))) (pe_one (pe_cmpR (op_eqD hr.units) (pe_fld (pv 0) rfl) (pe_fld (pv 1) rfl) (nomark _)))))), ?_⟩
    refine ⟨_, rfl, _, _, _, _, true, rfl, .own _, .base (.ins hb C.dc I.hD I.hn I.ht I.mD), I.kDD, true, rfl, iteT ?_⟩
    refine ⟨_, rfl, a, Z.D, dx, _, _, rfl, ha, C.dc, C.dt, lookT, _, rfl, b, Z.D, dy, _, _, rfl, hb, C.dc, C.dt, lookT, d, d, Dt.dp _ _ da, Dt.dp _ _ db, sh, sh, ?_⟩
    rw [SeqAt.eqv_refl d (SeqAt.canLay_of_shaped sh)]
    exact k H fun _ _ e => e
end
end K19
end

section
set_option Elab.async false
set_option linter.all false
set_option maxRecDepth 100000
set_option maxHeartbeats 16000000
/-! N11: the law. -/
namespace K19
open PySem L2 K19M
/-! ### the rule's table is plain data -/
theorem ll_ok {evs : List (Bool × Str)} (nok : ∀ e ∈ evs, NameOk e.2) {tab : List (Str × Nat × Nat)} {F : List Ent} {s : Nat} : ∀ x ∈ llL tab evs F s, NameOk x := fun x hx => by
  unfold llL at hx
  obtain ⟨p, hp, rfl⟩ := List.mem_map.mp hx
  have hp := (List.mergeSort_perm _ _).mem_iff.mp hp
  unfold rowsL at hp
  obtain ⟨y, hy, rfl⟩ := List.mem_map.mp hp
  have hy := (sortT_perm _).mem_iff.mp (List.mem_filter.mp hy).1
  obtain ⟨e, he, rfl⟩ := List.mem_map.mp (hereL_mem hy)
  exact nok e (List.mem_of_mem_take he)
theorem rule_ok {h : List Nat} {evs : List (Bool × Str)} (nok : ∀ e ∈ evs, NameOk e.2) : ∀ n, ∀ e ∈ ruleTo h evs n, NameOk e.2.2
  | 0, e, he => nomatch he
  | n + 1, e, he => by
    rw [ruleTo_succ] at he
    unfold ruleStep at he
    rcases List.mem_append.mp he with q | q
    · exact rule_ok nok n e q
    · obtain ⟨pb, hp, rfl⟩ := List.mem_map.mp q
      exact ll_ok nok _ (List.of_mem_zip hp).2
theorem canLay_E : ∀ {l : List Ent}, (∀ e ∈ l, NameOk e.2.2) → PyData.canLayAll0 (l.map encE) = true
  | [], _ => by simp [PyData.canLayAll0]
  | e :: l, h => by
    simp only [List.map_cons, PyData.canLayAll0, encE, encP, PyData.canLay0, name_ok (h e List.mem_cons_self), Bool.and_self, Bool.true_and]
    exact canLay_E fun x hx => h x (List.mem_cons_of_mem _ hx)
theorem depth_E : ∀ l : List Ent, PyData.depthAll (l.map encE) ≤ 2
  | [] => by simp [PyData.depthAll]
  | e :: l => by
    have := depth_E l
    have h2 : PyData.depth (encE e) ≤ 2 := by
      simp only [encE, encP, PyData.depth, PyData.depthAll]
      decide
    simp only [List.map_cons, PyData.depthAll]
    omega
theorem rule_shaped {h : List Nat} {evs : List (Bool × Str)} (nok : ∀ e ∈ evs, NameOk e.2) : SeqAt.shaped (ruleD h evs) = true := by
  show (PyData.canLay0 (.tuple (((ruleL h evs).mergeSort (PySem.W.dataLe false encE)).map encE)) && decide (PyData.depth (.tuple (((ruleL h evs).mergeSort (PySem.W.dataLe false encE)).map encE)) ≤ 64)) = true
  have hd := depth_E ((ruleL h evs).mergeSort (PySem.W.dataLe false encE))
  have hc := canLay_E (l := (ruleL h evs).mergeSort (PySem.W.dataLe false encE)) fun e he => rule_ok nok ((cnts h.sum evs).length - 1) e ((List.mergeSort_perm _ _).mem_iff.mp he)
  simp only [PyData.canLay0, PyData.depth, hc, Bool.true_and]
  exact decide_eq_true (by omega)
section
variable {K : PySem.W.Frag} {H H' : Hp} {Z : Za}
/-- a menu of yards -/
def MenuAt (K : PySem.W.Frag) (H : Hp) (xs : List V) : Prop := ∀ v ∈ xs, ∃ q h, v = .ref q ∧ SqT K H q (hV h) ∧ h ∈ menu
theorem MenuAt.nil : MenuAt K H [] := fun v hv => nomatch hv
theorem MenuAt.same {xs : List V} (m : MenuAt K H xs) (s : Same H H') : MenuAt K H' xs := fun v hv => by
  obtain ⟨q, h, e, a, b⟩ := m v hv
  exact ⟨q, h, e, tex s _ _ a, b⟩
theorem MenuAt.push {xs : List V} (m : MenuAt K H xs) {p : Addr} (np : H p = none) (h : List Nat) (hm : h ∈ menu) : MenuAt K (upd H p (.tup (hV h))) (xs ++ [.ref p]) := fun v hv => by
  rcases List.mem_append.mp hv with q | q
  · exact m.same (same_new np) v q
  · rw [List.mem_singleton.mp q]
    exact ⟨p, h, rfl, .inl (.inl upd_same), hm⟩
theorem YardAt.but2 {y d l : Addr} {h : List Nat} (q : YardAt K Z H y h) (D : DealAt H d l) (b : But2 d l H H') : YardAt K Z H' y h := by
  obtain ⟨dx, a, e, g⟩ := q
  obtain ⟨n1, n2⟩ := D.off e (fun _ z => nomatch z)
  exact ⟨dx, a, b _ _ e n1 n2, b.tex D _ _ g⟩
end
section
variable {P : Program} {w : World} {K : PySem.W.Frag} {mg : Str → Option Value} {base : Heap} {Z : Za}
def sp_law (K : PySem.W.Frag) : Sp := fun vs H Q _ => ∃ (a : Addr) (ns : List Int), vs = [.ref a] ∧ SqL K H a (ns.map V.int) ∧ ns.length ≤ 63 ∧ ∀ H', Q (.bl true) H'
theorem ok_law {f : Addr} {fd : FuncData} (F : Fun K "law" "law" s_law f fd) (T : Bl mg) (c_law_deal : Cal P w K mg base 1 "_law_deal" ["_law_script", "_law_base"] (sp_law_deal K Z)) (c_law_pick : Cal P w K mg base 2 "_law_pick" ["_law_deal_here", "_law_some"] (sp_law_pick K Z)) (c_law_draw : Cal P w K mg base 1 "_law_draw" ["_law_deal_here", "_law_bound"] (sp_law_draw K Z)) (c_law_names : Cal P w K mg base 3 "_law_names" ["_law_deal_here", "_law_many"] (sp_law_names K Z)) (c_law_events : Cal P w K mg base 2 "_law_events" ["_law_deal_here", "_law_names_here", "_law_most", "_law_many", "_law_widest"] (sp_law_events K Z)) (c_law_tried : Cal P w K mg base 2 "_law_tried" ["_law_heights", "_law_events_here"] (sp_law_tried K Z)) (c_court : Cal P w K mg base 8 "court" ["yard", "timetable"] (sp_court K Z)) (c_law_short : Cal P w K mg base 3 "_law_short" ["_law_heights", "_law_events_here", "_law_paper"] (sp_law_short K Z)) (m_Yard : MkC P w K mg base 3 "Yard" Z.Y ["self", "heights"] (sp_Yard_init K Z))  (m_Dealt : MkG mg "Dealt" Z.D) (m_Short : MkG mg "Short" Z.S) (k_stuck_event : CalK P w K mg base 7 "stuck_event" ["yard", "timetable"] ["timetable", "yard"] gSw gSw (sp_stuck_event K Z)) (C : Cf K Z) (I : Ci K Z) {fq : Addr} {fdq : FuncData} (Fq : FnOk P w K mg base CX0 1 fq fdq ["self", "other"] (sp_Dealt_eq K Z) ∧ PySem.W.findIn K (.ref Z.D) "__eq__" = some (some (.ref fq)) ∧ PySem.W.isFn K (.ref fq) = true ∧ Binds K fdq ["self", "other"] []) : FnOk P w K mg base CX0 9 f fd ["_law_script"] (sp_law K) := by
  refine F.ok sc_law (fun vs H Q E h => ?_) (fun cdv A outer s H vs Q E hr h => ?_)
  · obtain ⟨a, ns, rfl, _⟩ := h
    rfl
  · obtain ⟨a, ns, rfl, hns, hnl, k⟩ := h
    refine ⟨_, (pss_cons (ps_set (i := 1) sc_law.nd rfl (.inl rfl) (pe_cal c_law_deal (hr.mono (by decide)) (by rfl) (pa_cons (pv 0) (pa_cons pe_int pa_nil))))
      (pss_cons (ps_set (i := 2) sc_law.nd rfl (.inl rfl) (pe_lst (pa_cons (pe_tup (pa_cons pe_int (pa_cons pe_int (pa_cons pe_int pa_nil)))) (pa_cons (pe_tup (pa_cons pe_int (pa_cons pe_int (pa_cons pe_int pa_nil)))) (pa_cons (pe_tup (pa_cons pe_int (pa_cons pe_int (pa_cons pe_int pa_nil)))) (pa_cons (pe_tup (pa_cons pe_int (pa_cons pe_int (pa_cons pe_int pa_nil)))) (pa_cons (pe_tup (pa_cons pe_int (pa_cons pe_int (pa_cons pe_int pa_nil)))) (pa_cons (pe_tup (pa_cons pe_int (pa_cons pe_int (pa_cons pe_int pa_nil)))) (pa_cons (pe_tup (pa_cons pe_int (pa_cons pe_int (pa_cons pe_int pa_nil)))) (pa_cons (pe_tup (pa_cons pe_int (pa_cons pe_int (pa_cons pe_int (pa_cons pe_int pa_nil))))) pa_nil))))))))))
      (pss_cons (ps_set (i := 3) sc_law.nd rfl (.inl rfl) (pe_cal c_law_pick (hr.mono (by decide)) (by rfl) (pa_cons (pv 1) (pa_cons (pv 2) pa_nil))))
      (pss_cons (ps_set (i := 4) sc_law.nd rfl (.inl rfl) (pe_mk m_Yard (hr.mono (by decide)) (by rfl) (pa_cons (pv 3) pa_nil)))
      (pss_cons (ps_set (i := 5) sc_law.nd rfl (.inl rfl) (pe_cut (pe_ifExp (pt_cmpR op_eq (pe_callB call_len_seq (by rfl) T.b_len PySem.boot_len (pa_cons (pv 3) pa_nil)) pe_int (nomark _)) pe_int (pe_op op_add pe_int (pe_cal c_law_draw (hr.mono (by decide)) (by rfl) (pa_cons (pv 1) (pa_cons pe_int pa_nil)))))))
      (pss_cons (ps_set (i := 6) sc_law.nd rfl (.inl rfl) (pe_cal c_law_events (hr.mono (by decide)) (by rfl) (pa_cons (pv 1) (pa_cons (pe_cal c_law_names (hr.mono (by decide)) (by rfl) (pa_cons (pv 1) (pa_cons pe_int pa_nil))) (pa_cons (pe_callB (cr_sumT rfl) (by rfl) T.b_sum (by decide +kernel) (pa_cons (pv 3) pa_nil)) (pa_cons (pv 5) (pa_cons (pe_op op_add pe_int (pe_cal c_law_draw (hr.mono (by decide)) (by rfl) (pa_cons (pv 1) (pa_cons pe_int pa_nil)))) pa_nil)))))))
      (pss_cons (ps_par (i := 7) (j := 8) (by rfl) sc_law.nd rfl rfl (by decide) rfl rfl (pa_cons (pe_cal c_law_tried (hr.mono (by decide)) (by rfl) (pa_cons (pv 3) (pa_cons (pv 6) pa_nil))) (pa_cons (pe_cal c_court (hr.mono (by decide)) (by rfl) (pa_cons (pv 4) (pa_cons (pv 6) pa_nil))) pa_nil)) (by rfl))
      (pss_cons (ps_if (pt_cmpR op_ne (pe_callB call_repr_any (by rfl) T.b_repr (by decide +kernel) (pa_cons (pe_calk k_stuck_event (hr.mono (by decide)) (by rfl) (pk_cons (pv 6) (pk_cons (pv 4) pk_nil))) pa_nil)) (pe_callB call_repr_any (by rfl) T.b_repr (by decide +kernel) (pa_cons (pv 7) pa_nil)) (nomark _))
        (pss_one (ps_ret pe_bl))
        pss_nil)
      (pss_cons (ps_if (pt_cmpR op_isN (pv 7) pe_non (nomark _))
        (pss_one (ps_ret (pe_and (pe_callB call_isi (by rfl) T.b_isinstance (by decide +kernel) (pa_cons (pv 8) (pa_cons (pe_glob (v := .ref Z.D) rfl m_Dealt.g rfl) pa_nil))) (pe_and (pe_not (pe_callB call_isi (by rfl) T.b_isinstance (by decide +kernel) (pa_cons (pv 8) (pa_cons (pe_glob (v := .ref Z.S) rfl m_Short.g rfl) pa_nil)))) (pe_one (pe_cmpR (op_eqG (rcG_ins Fq.1 Fq.2.1 Fq.2.2.1 Fq.2.2.2 pass0) (hr.mono (by decide))) (pe_cal c_court (hr.mono (by decide)) (by rfl) (pa_cons (pv 4) (pa_cons (pv 6) pa_nil))) (pv 8) (nomark _)))))))
        pss_nil)
      (pss_one (ps_ret (pe_and (pe_callB call_isi (by rfl) T.b_isinstance (by decide +kernel) (pa_cons (pv 8) (pa_cons (pe_glob (v := .ref Z.S) rfl m_Short.g rfl) pa_nil))) (pe_and (pe_not (pe_callB call_isi (by rfl) T.b_isinstance (by decide +kernel) (pa_cons (pv 8) (pa_cons (pe_glob (v := .ref Z.D) rfl m_Dealt.g rfl) pa_nil)))) (pe_one (pe_cal c_law_short (hr.mono (by decide)) (by rfl) (pa_cons (pv 3) (pa_cons (pv 6) (pa_cons (pv 8) pa_nil)))))))))))))))))), ?_⟩
    refine ⟨_, rfl, a, ns, rfl, hns, hnl, fun H1 d l s1 D1 nd nl => ?_⟩
    refine ⟨(by show 3 ≤ sizeLine; decide), fun p1 n1 => ⟨(by show 3 ≤ sizeLine; decide), fun p2 n2 => ⟨(by show 3 ≤ sizeLine; decide), fun p3 n3 => ⟨(by show 3 ≤ sizeLine; decide), fun p4 n4 => ⟨(by show 3 ≤ sizeLine; decide), fun p5 n5 => ⟨(by show 3 ≤ sizeLine; decide), fun p6 n6 => ⟨(by show 3 ≤ sizeLine; decide), fun p7 n7 => ⟨(by show 4 ≤ sizeLine; decide), fun p8 n8 => ⟨(by show 8 ≤ sizeLine; decide), fun m nm => ?_⟩⟩⟩⟩⟩⟩⟩⟩⟩
    have m1 := (MenuAt.nil (K := K)).push n1 [3, 1, 1] (by decide)
    have m2 := m1.push n2 [1, 3, 1] (by decide)
    have m3 := m2.push n3 [1, 1, 3] (by decide)
    have m4 := m3.push n4 [2, 2, 1] (by decide)
    have m5 := m4.push n5 [2, 1, 2] (by decide)
    have m6 := m5.push n6 [1, 2, 2] (by decide)
    have m7 := m6.push n7 [1, 1, 3] (by decide)
    have m8 := m7.push n8 [2, 1, 1, 1] (by decide)
    have s18 := (same_new n1 (o := .tup (hV [3, 1, 1]))).trans ((same_new n2 (o := .tup (hV [1, 3, 1]))).trans ((same_new n3 (o := .tup (hV [1, 1, 3]))).trans ((same_new n4 (o := .tup (hV [2, 2, 1]))).trans ((same_new n5 (o := .tup (hV [2, 1, 2]))).trans ((same_new n6 (o := .tup (hV [1, 2, 2]))).trans ((same_new n7 (o := .tup (hV [1, 1, 3]))).trans (same_new n8 (o := .tup (hV [2, 1, 1, 1])))))))))
    have sm := same_new nm (o := .lst [.ref p1, .ref p2, .ref p3, .ref p4, .ref p5, .ref p6, .ref p7, .ref p8])
    have M9 := m8.same sm
    have D9 := D1.same (s18.trans sm)
    obtain ⟨x1, hx1⟩ := (D1.same s18).ld
    obtain ⟨x2, hx2⟩ := (D1.same s18).ll
    have nmd : m ≠ d := (ne_of_none hx1 nm).symm
    have nml : m ≠ l := (ne_of_none hx2 nm).symm
    refine ⟨_, rfl, _, rfl, d, l, .ref m, rfl, D9, .inr ⟨m, _, rfl, upd_same, nmd, nml, (by show 1 ≤ 8; decide), (by show 8 ≤ 1000; decide), fun H2 v D2 b2 hv => ?_⟩⟩
    obtain ⟨ha, h, rfl, sh0, hm⟩ := M9 v hv
    have sh2 := b2.tex D9 _ _ sh0
    clear M9 m1 m2 m3 m4 m5 m6 m7 m8 hv
    have h5 := menu_sum h hm
    have hok := menu_ok h hm
    have hl4 := menu_4 h hm
    -- the yard
    refine ⟨_, rfl, fun y dx ny ndx nex => ?_⟩
    refine ⟨y, dx, ha, h, rfl, upd_same, ?_, hok, fun H3 Y3 b3 => ⟨rfl, ?_⟩⟩
    · refine tex (H := H2) (fun b o ob => ?_) _ _ sh2
      rw [upd_ne (ne_of_none ob ny), upd_ne (ne_of_none ob ndx)]
      exact ob
    have s3 : Same H2 H3 := fun b o ob => by
      have hby : b ≠ y := ne_of_none ob ny
      refine b3 b o ?_ hby
      rw [upd_ne hby, upd_ne (ne_of_none ob ndx)]
      exact ob
    have D3 := D2.same s3
    have sh3 := tex s3 _ _ sh2
    have hlen := hV_len h
    -- how many
    refine ⟨fun v H' => ∃ m : Nat, v = .int (m : Int) ∧ m ≤ 12 ∧ DealAt H' d l ∧ But2 d l H3 H', ?_, ?_⟩
    · refine ⟨_, rfl, ha, _, rfl, .inr sh3, rfl, _, rfl, ite2 (fun _ => ⟨7, rfl, by decide, D3, .refl⟩) fun _ => ?_⟩
      refine ⟨_, rfl, d, l, 3, rfl, D3, by decide, by decide, fun H4 r D4 b4 r0 r1 => ⟨_, _, rfl, rfl, ?_⟩⟩
      obtain ⟨n, rfl⟩ := nat_of r0
      exact ⟨10 + n, rfl, by omega, D4, b4⟩
    · rintro v H4 ⟨mn, rfl, mn12, D4, b4⟩
      have sh4 := b4.tex D3 _ _ sh3
      have Y4 := Y3.but2 D3 b4
      -- the names, the events
      refine ⟨_, rfl, _, rfl, d, l, rfl, D4, fun H5 nn names D5 b5 nn0 hnn nnl nnd nnok => ?_⟩
      have sh5 := b5.tex D4 _ _ sh4
      have Y5 := Y4.but2 D4 b5
      obtain ⟨x3, hx3⟩ := D4.ld
      obtain ⟨x4, hx4⟩ := D4.ll
      have nn1 : nn ≠ d := (ne_of_none hx3 nn0).symm
      have nn2 : nn ≠ l := (ne_of_none hx4 nn0).symm
      refine ⟨_, rfl, ha, zs h, rfl, sh5, _, rfl, _, rfl, d, l, 2, rfl, D5, by decide, by decide, fun H6 r6 D6 b6 r60 r61 => ⟨_, _, rfl, rfl, ?_⟩⟩
      obtain ⟨wd', rfl⟩ := nat_of r60
      have hn6 := b6 _ _ hnn nn1 nn2
      refine ⟨d, l, nn, names, h.sum, mn, 1 + wd', by rw [zs_sum]; rfl, D6, hn6, nn1, nn2, nnd, nnok, by omega, by omega, by omega, by omega, by omega, by omega, fun H7 q evs D7 b7 T7 tt evn evl => ?_⟩
      have sh7 := b7.tex D6 _ _ (b6.tex D5 _ _ sh5)
      have Y7 := (Y5.but2 D5 b6).but2 D6 b7
      have nok : ∀ e ∈ evs, NameOk e.2 := fun e he => nnok _ (evn e he)
      have el : evs.length ≤ 100 := by omega
      have G7 : Giv K Z H7 y q h evs := ⟨Y7, T7, tt, nok, el, hm⟩
      have rsh := rule_shaped (h := h) nok
      have hts := tried_stuck hm (fun _ => 0) tt
      rcases hts with ⟨t0, st0⟩ | ⟨e, t1, st1, st2⟩
      · -- nobody is stuck
        have sho := (shorts_stuck hm tt).mpr st0
        refine ⟨_, rfl, _, rfl, ha, q, h, evs, rfl, sh7, hm, T7, tt, nok, el, fun H8 s8 => ⟨fun _ => ?_, fun e he => (by rw [t0] at he; cases he)⟩⟩
        have G8 := G7.same s8
        refine ⟨_, rfl, _, rfl, y, q, h, evs, rfl, G8, fun H9 pp s9 c9 => ⟨_, _, rfl, ?_⟩⟩
        have G9 := G8.same s9
        refine ⟨_, rfl, _, rfl, rfl, y, q, h, evs, rfl, G9, fun H10 s10 => ⟨fun _ => ?_, fun e he => (by rw [st0] at he; cases he)⟩⟩
        refine .inr ⟨rfl, _, rfl, .inr ⟨rfl, rfl, _, rfl, iteNS rfl ?_⟩⟩
        have G10 := G9.same s10
        have c10 := c9.same s10
        refine ⟨_, rfl, rfl, true, rfl, iteT ?_⟩
        rcases c10 with ⟨_, dd⟩ | ⟨e, r, z, _⟩
        · obtain ⟨dxx, vv, hpp, dvv⟩ := id dd
          refine ⟨_, rfl, _, _, _, _, true, rfl, .own _, .base (.ins hpp C.dc I.hD I.hn I.ht I.mD), I.kDD, true, rfl, iteT ?_⟩
          refine ⟨_, rfl, _, _, _, _, false, rfl, .own _, .base (.ins hpp C.dc I.hD I.hn I.ht I.mD), I.kDS, false, rfl, true, rfl, iteT ?_⟩
          refine ⟨_, rfl, _, rfl, y, q, h, evs, rfl, G10, fun H11 p2 s11 c11 => ⟨_, rfl, ?_, fun H' _ => k H'⟩⟩
          rcases c11 with ⟨_, dd2⟩ | ⟨e, r, z, _⟩
          · obtain ⟨dx2, v2, hp2, dv2⟩ := id dd2
            exact ⟨p2, pp, dx2, dxx, _, _, rfl, rfl, hp2, s11 _ _ hpp, ruleD h evs, dd2, ⟨dxx, vv, s11 _ _ hpp, Dt.mono (tex s11) _ _ dvv⟩, rsh⟩
          · rw [sho] at z
            cases z
        · rw [sho] at z
          cases z
      · -- the first event that nobody can do
        have eb := stuck_bad hm (fun _ => 0) tt st1
        have elt : e < evs.length := eb.1
        have sho : shortsL h evs ≠ [] := fun z => by
          rw [(shorts_stuck hm tt).mp z] at st1
          cases st1
        have lg : (e : Int).natAbs.log2 < 1920 := by
          rw [Int.natAbs_natCast]
          exact Nat.lt_of_le_of_lt (Nat.log2_le_self e) (by omega)
        refine ⟨_, rfl, _, rfl, ha, q, h, evs, rfl, sh7, hm, T7, tt, nok, el, fun H8 s8 => ⟨fun z => (by rw [t1] at z; cases z), fun e' he => ?_⟩⟩
        have ee : e' = e := by
          rw [t1] at he
          exact (Option.some.inj he).symm
        subst ee
        have G8 := G7.same s8
        refine ⟨_, rfl, _, rfl, y, q, h, evs, rfl, G8, fun H9 pp s9 c9 => ⟨_, _, rfl, ?_⟩⟩
        have G9 := G8.same s9
        refine ⟨_, rfl, _, rfl, rfl, y, q, h, evs, rfl, G9, fun H10 s10 => ⟨fun z => (by rw [z] at st1; cases st1), fun e2 he2 hmin => ?_⟩⟩
        have ee : e2 = e' := Nat.le_antisymm (hmin e' st1) (st2 e2 he2)
        subst ee
        refine .inl ⟨_, rfl, lg, _, rfl, .inl ⟨_, rfl, lg, rfl, _, rfl, iteNS rfl ?_⟩⟩
        have G10 := G9.same s10
        have c10 := c9.same s10
        refine ⟨_, rfl, rfl, false, rfl, iteF ?_⟩
        rcases c10 with ⟨z, _⟩ | ⟨sx, r, z, sA⟩
        · exact absurd z sho
        · obtain ⟨dxx, sa, la, hpp, _⟩ := id sA
          refine ⟨_, rfl, _, _, _, _, true, rfl, .own _, .base (.ins hpp C.sc I.hS I.hn I.ht I.mS), I.kSS, true, rfl, iteT ?_⟩
          refine ⟨_, rfl, _, _, _, _, false, rfl, .own _, .base (.ins hpp C.sc I.hS I.hn I.ht I.mS), I.kSD, false, rfl, true, rfl, iteT ?_⟩
          have s710 := s8.trans (s9.trans s10)
          exact ⟨_, rfl, _, rfl, _, rfl, ha, q, pp, h, evs, sx, rfl, tex s710 _ _ sh7, hm, G10.tm, tt, nok, el, sA, by rw [z]; exact List.mem_cons_self, fun H' _ => k H'⟩
end
end K19
end

section
set_option Elab.async false
open PySem PySem.W PyProof.Rows
set_option maxRecDepth 100000
set_option maxHeartbeats 0
open_top head for PySem.Challenge.rw_staysdeep_k19_whole_courts_of_five_place
end

section
set_option Elab.async false
set_option linter.all false
set_option maxRecDepth 100000
set_option maxHeartbeats 8000000
/-! F1: what the top has left. -/
namespace K19
open PySem L2 K19M
theorem all_mk {l : PySem.W.OpenLaw} {w : World} {K : PySem.W.Frag} {h : Heap} {mg : Str → Option Value} {fa : Addr} (X : K.In h) (G : h.Ns mainGlobals mg) (hfa : mg "law" = some (.ref fa))
    {CY CD CS f1 f2 f3 f4 f5 f6 f7 f8 f9 f10 f11 f12 f13 f14 f15 f16 f17 f18 f19 f20 f21 f22 f23 f24 f25 f26 f27 f28 f29 f30 f31 f32 f33 f34 f35 f36 f37 f38 f39 f40 f41 f42 f43 f44 : Addr} {od1 an1 od2 an2 od3 an3 od4 an4 od5 an5 od6 an6 od7 an7 od8 an8 od9 an9 od10 an10 od11 an11 od12 an12 od13 an13 od14 an14 od15 an15 od16 an16 od17 an17 od18 an18 od19 an19 od20 an20 od21 an21 od22 an22 od23 an23 od24 an24 od25 an25 od26 an26 od27 an27 od28 an28 od29 an29 od30 an30 od31 an31 od32 an32 od33 an33 od34 an34 od35 an35 od36 an36 od37 an37 od38 an38 od39 an39 od40 an40 od41 an41 od42 an42 od43 an43 od44 an44 : Option Addr} {sl1 sl2 sl3 sl4 sl5 sl6 sl7 sl8 sl9 sl10 sl11 sl12 sl13 sl14 sl15 sl16 sl17 sl18 sl19 sl20 sl21 sl22 sl23 sl24 sl25 sl26 sl27 sl28 sl29 sl30 sl31 sl32 sl33 sl34 sl35 sl36 sl37 sl38 sl39 sl40 sl41 sl42 sl43 sl44 : Array (Option Value)} {oc1 kV1 dc1 pm1 cd1 ct1 oc2 kV2 dc2 pm2 cd2 ct2 oc3 kV3 dc3 pm3 cd3 ct3 oc4 kV4 dc4 pm4 cd4 ct4 oc5 kV5 dc5 pm5 cd5 ct5 oc6 kV6 dc6 pm6 cd6 ct6 oc7 kV7 dc7 pm7 cd7 ct7 oc8 kV8 dc8 pm8 cd8 ct8 oc9 kV9 dc9 pm9 cd9 ct9 oc10 kV10 dc10 pm10 cd10 ct10 oc11 kV11 dc11 pm11 cd11 ct11 oc12 kV12 dc12 pm12 cd12 ct12 oc13 kV13 dc13 pm13 cd13 ct13 oc14 kV14 dc14 pm14 cd14 ct14 oc15 kV15 dc15 pm15 cd15 ct15 oc16 kV16 dc16 pm16 cd16 ct16 oc17 kV17 dc17 pm17 cd17 ct17 oc18 kV18 dc18 pm18 cd18 ct18 oc19 kV19 dc19 pm19 cd19 ct19 oc20 kV20 dc20 pm20 cd20 ct20 oc21 kV21 dc21 pm21 cd21 ct21 oc22 kV22 dc22 pm22 cd22 ct22 oc23 kV23 dc23 pm23 cd23 ct23 oc24 kV24 dc24 pm24 cd24 ct24 oc25 kV25 dc25 pm25 cd25 ct25 oc26 kV26 dc26 pm26 cd26 ct26 oc27 kV27 dc27 pm27 cd27 ct27 oc28 kV28 dc28 pm28 cd28 ct28 oc29 kV29 dc29 pm29 cd29 ct29 oc30 kV30 dc30 pm30 cd30 ct30 oc31 kV31 dc31 pm31 cd31 ct31 oc32 kV32 dc32 pm32 cd32 ct32 oc33 kV33 dc33 pm33 cd33 ct33 oc34 kV34 dc34 pm34 cd34 ct34 oc35 kV35 dc35 pm35 cd35 ct35 oc36 kV36 dc36 pm36 cd36 ct36 oc37 kV37 dc37 pm37 cd37 ct37 oc38 kV38 dc38 pm38 cd38 ct38 oc39 kV39 dc39 pm39 cd39 ct39 oc40 kV40 dc40 pm40 cd40 ct40 oc41 kV41 dc41 pm41 cd41 ct41 oc42 kV42 dc42 pm42 cd42 ct42 oc43 kV43 dc43 pm43 cd43 ct43 oc44 kV44 dc44 pm44 cd44 ct44 : Value} {tk_LETTERS tk_LONGEST tk_FEWEST tk_MOST : Tok}
    (aCY : PySem.W.nsIn K mainGlobals "Yard" = some (some (.ref CY)))
    (pgY : PySem.W.plainGet K CY Str.empty = true)
    (hdY : PySem.W.hasDictIn K CY = true)
    (poY : PySem.W.plainOver K CY = true)
    (saY : PySem.W.findIn K (.ref CY) "__setattr__" = some (some (.builtin "object.__setattr__")))
    (mkY : PySem.W.makesIn K CY = true)
    (kcY : PySem.W.keepIn K (.ref CY) = true)
    (aCD : PySem.W.nsIn K mainGlobals "Dealt" = some (some (.ref CD)))
    (pgD : PySem.W.plainGet K CD Str.empty = true)
    (hdD : PySem.W.hasDictIn K CD = true)
    (poD : PySem.W.plainOver K CD = true)
    (saD : PySem.W.findIn K (.ref CD) "__setattr__" = some (some (.builtin "object.__setattr__")))
    (mkD : PySem.W.makesIn K CD = true)
    (kcD : PySem.W.keepIn K (.ref CD) = true)
    (aCS : PySem.W.nsIn K mainGlobals "Short" = some (some (.ref CS)))
    (pgS : PySem.W.plainGet K CS Str.empty = true)
    (hdS : PySem.W.hasDictIn K CS = true)
    (poS : PySem.W.plainOver K CS = true)
    (saS : PySem.W.findIn K (.ref CS) "__setattr__" = some (some (.builtin "object.__setattr__")))
    (mkS : PySem.W.makesIn K CS = true)
    (kcS : PySem.W.keepIn K (.ref CS) = true)
    (yh : PySem.W.findIn K (.ref CY) "heights" = some none)
    (dt : PySem.W.findIn K (.ref CD) "table" = some none)
    (s1 : PySem.W.findIn K (.ref CS) "cover" = some none)
    (s2 : PySem.W.findIn K (.ref CS) "stretch" = some none)
    (s3 : PySem.W.findIn K (.ref CS) "stayers" = some none)
    (iD : PySem.W.findIn K (.ref CD) "__class__" = some (some (.builtin "object.__class__")))
    (iS : PySem.W.findIn K (.ref CS) "__class__" = some (some (.builtin "object.__class__")))
    (ihn : PySem.W.specialIn K (.builtin "object.__class__") "__get__" = some (some (.builtin "getset_descriptor.__get__")))
    (iht : PySem.W.takesIn K (.builtin "object.__class__") = some true)
    (imD : PySem.W.mroIn K CD (.type "object") = some true)
    (imS : PySem.W.mroIn K CS (.type "object") = some true)
    (kDD : PySem.W.kitOne K (.ref CD) (.ref CD) = some true)
    (kDS : PySem.W.kitOne K (.ref CD) (.ref CS) = some false)
    (kSS : PySem.W.kitOne K (.ref CS) (.ref CS) = some true)
    (kSD : PySem.W.kitOne K (.ref CS) (.ref CD) = some false)
    (z_len : PySem.W.nsIn K mainGlobals "len" = some none)
    (z_isinstance : PySem.W.nsIn K mainGlobals "isinstance" = some none)
    (z_all : PySem.W.nsIn K mainGlobals "all" = some none)
    (z_sorted : PySem.W.nsIn K mainGlobals "sorted" = some none)
    (z_set : PySem.W.nsIn K mainGlobals "set" = some none)
    (z_tuple : PySem.W.nsIn K mainGlobals "tuple" = some none)
    (z_list : PySem.W.nsIn K mainGlobals "list" = some none)
    (z_sum : PySem.W.nsIn K mainGlobals "sum" = some none)
    (z_max : PySem.W.nsIn K mainGlobals "max" = some none)
    (z_min : PySem.W.nsIn K mainGlobals "min" = some none)
    (z_enumerate : PySem.W.nsIn K mainGlobals "enumerate" = some none)
    (z_range : PySem.W.nsIn K mainGlobals "range" = some none)
    (z_zip : PySem.W.nsIn K mainGlobals "zip" = some none)
    (z_int : PySem.W.nsIn K mainGlobals "int" = some none)
    (z_bool : PySem.W.nsIn K mainGlobals "bool" = some none)
    (z_str : PySem.W.nsIn K mainGlobals "str" = some none)
    (z_abs : PySem.W.nsIn K mainGlobals "abs" = some none)
    (z_repr : PySem.W.nsIn K mainGlobals "repr" = some none)
    (v_LETTERS : PySem.W.nsIn K mainGlobals "LETTERS" = some (some (.str "abcdefghijklmnopqrstuvwxyz" tk_LETTERS)))
    (v_LONGEST : PySem.W.nsIn K mainGlobals "LONGEST" = some (some (.int 8 tk_LONGEST)))
    (v_FEWEST : PySem.W.nsIn K mainGlobals "FEWEST" = some (some (.int 3 tk_FEWEST)))
    (v_MOST : PySem.W.nsIn K mainGlobals "MOST" = some (some (.int 12 tk_MOST)))
    (a1 : PySem.W.nsIn K mainGlobals "is_integer" = some (some (.ref f1)))
    (l1 : K.lookup f1 = some ⟨oc1, od1, .func (PySem.W.fnOf "is_integer" "is_integer" (defArgs s_is_integer) (defBody s_is_integer) (defScope s_is_integer) .none kV1 dc1 pm1 an1 cd1 ct1), sl1⟩)
    (c1 : PySem.W.codeIn K cd1 "is_integer" = true)
    (k1 : PySem.W.keepIn K (.ref f1) = true)
    (a2 : PySem.W.nsIn K mainGlobals "is_below" = some (some (.ref f2)))
    (l2 : K.lookup f2 = some ⟨oc2, od2, .func (PySem.W.fnOf "is_below" "is_below" (defArgs s_is_below) (defBody s_is_below) (defScope s_is_below) .none kV2 dc2 pm2 an2 cd2 ct2), sl2⟩)
    (c2 : PySem.W.codeIn K cd2 "is_below" = true)
    (k2 : PySem.W.keepIn K (.ref f2) = true)
    (a3 : PySem.W.nsIn K mainGlobals "is_text" = some (some (.ref f3)))
    (l3 : K.lookup f3 = some ⟨oc3, od3, .func (PySem.W.fnOf "is_text" "is_text" (defArgs s_is_text) (defBody s_is_text) (defScope s_is_text) .none kV3 dc3 pm3 an3 cd3 ct3), sl3⟩)
    (c3 : PySem.W.codeIn K cd3 "is_text" = true)
    (k3 : PySem.W.keepIn K (.ref f3) = true)
    (a4 : PySem.W.nsIn K mainGlobals "is_sequence" = some (some (.ref f4)))
    (l4 : K.lookup f4 = some ⟨oc4, od4, .func (PySem.W.fnOf "is_sequence" "is_sequence" (defArgs s_is_sequence) (defBody s_is_sequence) (defScope s_is_sequence) .none kV4 dc4 pm4 an4 cd4 ct4), sl4⟩)
    (c4 : PySem.W.codeIn K cd4 "is_sequence" = true)
    (k4 : PySem.W.keepIn K (.ref f4) = true)
    (a5 : PySem.W.nsIn K mainGlobals "is_pair" = some (some (.ref f5)))
    (l5 : K.lookup f5 = some ⟨oc5, od5, .func (PySem.W.fnOf "is_pair" "is_pair" (defArgs s_is_pair) (defBody s_is_pair) (defScope s_is_pair) .none kV5 dc5 pm5 an5 cd5 ct5), sl5⟩)
    (c5 : PySem.W.codeIn K cd5 "is_pair" = true)
    (k5 : PySem.W.keepIn K (.ref f5) = true)
    (a6 : PySem.W.nsIn K mainGlobals "is_name" = some (some (.ref f6)))
    (l6 : K.lookup f6 = some ⟨oc6, od6, .func (PySem.W.fnOf "is_name" "is_name" (defArgs s_is_name) (defBody s_is_name) (defScope s_is_name) .none kV6 dc6 pm6 an6 cd6 ct6), sl6⟩)
    (c6 : PySem.W.codeIn K cd6 "is_name" = true)
    (k6 : PySem.W.keepIn K (.ref f6) = true)
    (a7 : PySem.W.nsIn K mainGlobals "need_number" = some (some (.ref f7)))
    (l7 : K.lookup f7 = some ⟨oc7, od7, .func (PySem.W.fnOf "need_number" "need_number" (defArgs s_need_number) (defBody s_need_number) (defScope s_need_number) .none kV7 dc7 pm7 an7 cd7 ct7), sl7⟩)
    (c7 : PySem.W.codeIn K cd7 "need_number" = true)
    (k7 : PySem.W.keepIn K (.ref f7) = true)
    (a8 : PySem.W.nsIn K mainGlobals "lot_of" = some (some (.ref f8)))
    (l8 : K.lookup f8 = some ⟨oc8, od8, .func (PySem.W.fnOf "lot_of" "lot_of" (defArgs s_lot_of) (defBody s_lot_of) (defScope s_lot_of) .none kV8 dc8 pm8 an8 cd8 ct8), sl8⟩)
    (c8 : PySem.W.codeIn K cd8 "lot_of" = true)
    (k8 : PySem.W.keepIn K (.ref f8) = true)
    (a9 : PySem.W.findIn K (.ref CY) "__init__" = some (some (.ref f9)))
    (i9 : PySem.W.isFn K (.ref f9) = true)
    (l9 : K.lookup f9 = some ⟨oc9, od9, .func (PySem.W.fnOf "__init__" "Yard.__init__" (defArgs s_Yard__init) (defBody s_Yard__init) (defScope s_Yard__init) .none kV9 dc9 pm9 an9 cd9 ct9), sl9⟩)
    (c9 : PySem.W.codeIn K cd9 "Yard.__init__" = true)
    (k9 : PySem.W.keepIn K (.ref f9) = true)
    (a10 : PySem.W.nsIn K mainGlobals "places" = some (some (.ref f10)))
    (l10 : K.lookup f10 = some ⟨oc10, od10, .func (PySem.W.fnOf "places" "places" (defArgs s_places) (defBody s_places) (defScope s_places) .none kV10 dc10 pm10 an10 cd10 ct10), sl10⟩)
    (c10 : PySem.W.codeIn K cd10 "places" = true)
    (k10 : PySem.W.keepIn K (.ref f10) = true)
    (a11 : PySem.W.nsIn K mainGlobals "layer" = some (some (.ref f11)))
    (l11 : K.lookup f11 = some ⟨oc11, od11, .func (PySem.W.fnOf "layer" "layer" (defArgs s_layer) (defBody s_layer) (defScope s_layer) .none kV11 dc11 pm11 an11 cd11 ct11), sl11⟩)
    (c11 : PySem.W.codeIn K cd11 "layer" = true)
    (k11 : PySem.W.keepIn K (.ref f11) = true)
    (a12 : PySem.W.nsIn K mainGlobals "is_event" = some (some (.ref f12)))
    (l12 : K.lookup f12 = some ⟨oc12, od12, .func (PySem.W.fnOf "is_event" "is_event" (defArgs s_is_event) (defBody s_is_event) (defScope s_is_event) .none kV12 dc12 pm12 an12 cd12 ct12), sl12⟩)
    (c12 : PySem.W.codeIn K cd12 "is_event" = true)
    (k12 : PySem.W.keepIn K (.ref f12) = true)
    (a13 : PySem.W.nsIn K mainGlobals "event_fault" = some (some (.ref f13)))
    (l13 : K.lookup f13 = some ⟨oc13, od13, .func (PySem.W.fnOf "event_fault" "event_fault" (defArgs s_event_fault) (defBody s_event_fault) (defScope s_event_fault) .none kV13 dc13 pm13 an13 cd13 ct13), sl13⟩)
    (c13 : PySem.W.codeIn K cd13 "event_fault" = true)
    (k13 : PySem.W.keepIn K (.ref f13) = true)
    (a14 : PySem.W.nsIn K mainGlobals "need_timetable" = some (some (.ref f14)))
    (l14 : K.lookup f14 = some ⟨oc14, od14, .func (PySem.W.fnOf "need_timetable" "need_timetable" (defArgs s_need_timetable) (defBody s_need_timetable) (defScope s_need_timetable) .none kV14 dc14 pm14 an14 cd14 ct14), sl14⟩)
    (c14 : PySem.W.codeIn K cd14 "need_timetable" = true)
    (k14 : PySem.W.keepIn K (.ref f14) = true)
    (a15 : PySem.W.nsIn K mainGlobals "need_state" = some (some (.ref f15)))
    (l15 : K.lookup f15 = some ⟨oc15, od15, .func (PySem.W.fnOf "need_state" "need_state" (defArgs s_need_state) (defBody s_need_state) (defScope s_need_state) .none kV15 dc15 pm15 an15 cd15 ct15), sl15⟩)
    (c15 : PySem.W.codeIn K cd15 "need_state" = true)
    (k15 : PySem.W.keepIn K (.ref f15) = true)
    (a16 : PySem.W.nsIn K mainGlobals "state_boxes" = some (some (.ref f16)))
    (l16 : K.lookup f16 = some ⟨oc16, od16, .func (PySem.W.fnOf "state_boxes" "state_boxes" (defArgs s_state_boxes) (defBody s_state_boxes) (defScope s_state_boxes) .none kV16 dc16 pm16 an16 cd16 ct16), sl16⟩)
    (c16 : PySem.W.codeIn K cd16 "state_boxes" = true)
    (k16 : PySem.W.keepIn K (.ref f16) = true)
    (a17 : PySem.W.nsIn K mainGlobals "free_counts" = some (some (.ref f17)))
    (l17 : K.lookup f17 = some ⟨oc17, od17, .func (PySem.W.fnOf "free_counts" "free_counts" (defArgs s_free_counts) (defBody s_free_counts) (defScope s_free_counts) .none kV17 dc17 pm17 an17 cd17 ct17), sl17⟩)
    (c17 : PySem.W.codeIn K cd17 "free_counts" = true)
    (k17 : PySem.W.keepIn K (.ref f17) = true)
    (a18 : PySem.W.nsIn K mainGlobals "presence_table" = some (some (.ref f18)))
    (l18 : K.lookup f18 = some ⟨oc18, od18, .func (PySem.W.fnOf "presence_table" "presence_table" (defArgs s_presence_table) (defBody s_presence_table) (defScope s_presence_table) .none kV18 dc18 pm18 an18 cd18 ct18), sl18⟩)
    (c18 : PySem.W.codeIn K cd18 "presence_table" = true)
    (k18 : PySem.W.keepIn K (.ref f18) = true)
    (a19 : PySem.W.nsIn K mainGlobals "owed" = some (some (.ref f19)))
    (l19 : K.lookup f19 = some ⟨oc19, od19, .func (PySem.W.fnOf "owed" "owed" (defArgs s_owed) (defBody s_owed) (defScope s_owed) .none kV19 dc19 pm19 an19 cd19 ct19), sl19⟩)
    (c19 : PySem.W.codeIn K cd19 "owed" = true)
    (k19 : PySem.W.keepIn K (.ref f19) = true)
    (a20 : PySem.W.nsIn K mainGlobals "yard_covers" = some (some (.ref f20)))
    (l20 : K.lookup f20 = some ⟨oc20, od20, .func (PySem.W.fnOf "yard_covers" "yard_covers" (defArgs s_yard_covers) (defBody s_yard_covers) (defScope s_yard_covers) .none kV20 dc20 pm20 an20 cd20 ct20), sl20⟩)
    (c20 : PySem.W.codeIn K cd20 "yard_covers" = true)
    (k20 : PySem.W.keepIn K (.ref f20) = true)
    (a21 : PySem.W.nsIn K mainGlobals "rows_below" = some (some (.ref f21)))
    (l21 : K.lookup f21 = some ⟨oc21, od21, .func (PySem.W.fnOf "rows_below" "rows_below" (defArgs s_rows_below) (defBody s_rows_below) (defScope s_rows_below) .none kV21 dc21 pm21 an21 cd21 ct21), sl21⟩)
    (c21 : PySem.W.codeIn K cd21 "rows_below" = true)
    (k21 : PySem.W.keepIn K (.ref f21) = true)
    (a22 : PySem.W.nsIn K mainGlobals "staying" = some (some (.ref f22)))
    (l22 : K.lookup f22 = some ⟨oc22, od22, .func (PySem.W.fnOf "staying" "staying" (defArgs s_staying) (defBody s_staying) (defScope s_staying) .none kV22 dc22 pm22 an22 cd22 ct22), sl22⟩)
    (c22 : PySem.W.codeIn K cd22 "staying" = true)
    (k22 : PySem.W.keepIn K (.ref f22) = true)
    (a23 : PySem.W.findIn K (.ref CD) "__init__" = some (some (.ref f23)))
    (i23 : PySem.W.isFn K (.ref f23) = true)
    (l23 : K.lookup f23 = some ⟨oc23, od23, .func (PySem.W.fnOf "__init__" "Dealt.__init__" (defArgs s_Dealt__init) (defBody s_Dealt__init) (defScope s_Dealt__init) .none kV23 dc23 pm23 an23 cd23 ct23), sl23⟩)
    (c23 : PySem.W.codeIn K cd23 "Dealt.__init__" = true)
    (k23 : PySem.W.keepIn K (.ref f23) = true)
    (a24 : PySem.W.findIn K (.ref CS) "__init__" = some (some (.ref f24)))
    (i24 : PySem.W.isFn K (.ref f24) = true)
    (l24 : K.lookup f24 = some ⟨oc24, od24, .func (PySem.W.fnOf "__init__" "Short.__init__" (defArgs s_Short__init) (defBody s_Short__init) (defScope s_Short__init) .none kV24 dc24 pm24 an24 cd24 ct24), sl24⟩)
    (c24 : PySem.W.codeIn K cd24 "Short.__init__" = true)
    (k24 : PySem.W.keepIn K (.ref f24) = true)
    (a25 : PySem.W.nsIn K mainGlobals "shorts" = some (some (.ref f25)))
    (l25 : K.lookup f25 = some ⟨oc25, od25, .func (PySem.W.fnOf "shorts" "shorts" (defArgs s_shorts) (defBody s_shorts) (defScope s_shorts) .none kV25 dc25 pm25 an25 cd25 ct25), sl25⟩)
    (c25 : PySem.W.codeIn K cd25 "shorts" = true)
    (k25 : PySem.W.keepIn K (.ref f25) = true)
    (a26 : PySem.W.nsIn K mainGlobals "stuck_event" = some (some (.ref f26)))
    (l26 : K.lookup f26 = some ⟨oc26, od26, .func (PySem.W.fnOf "stuck_event" "stuck_event" (defArgs s_stuck_event) (defBody s_stuck_event) (defScope s_stuck_event) .none kV26 dc26 pm26 an26 cd26 ct26), sl26⟩)
    (c26 : PySem.W.codeIn K cd26 "stuck_event" = true)
    (k26 : PySem.W.keepIn K (.ref f26) = true)
    (a27 : PySem.W.nsIn K mainGlobals "stretch_from" = some (some (.ref f27)))
    (l27 : K.lookup f27 = some ⟨oc27, od27, .func (PySem.W.fnOf "stretch_from" "stretch_from" (defArgs s_stretch_from) (defBody s_stretch_from) (defScope s_stretch_from) .none kV27 dc27 pm27 an27 cd27 ct27), sl27⟩)
    (c27 : PySem.W.codeIn K cd27 "stretch_from" = true)
    (k27 : PySem.W.keepIn K (.ref f27) = true)
    (a28 : PySem.W.nsIn K mainGlobals "latest_leavers" = some (some (.ref f28)))
    (l28 : K.lookup f28 = some ⟨oc28, od28, .func (PySem.W.fnOf "latest_leavers" "latest_leavers" (defArgs s_latest_leavers) (defBody s_latest_leavers) (defScope s_latest_leavers) .none kV28 dc28 pm28 an28 cd28 ct28), sl28⟩)
    (c28 : PySem.W.codeIn K cd28 "latest_leavers" = true)
    (k28 : PySem.W.keepIn K (.ref f28) = true)
    (a29 : PySem.W.nsIn K mainGlobals "rule_table" = some (some (.ref f29)))
    (l29 : K.lookup f29 = some ⟨oc29, od29, .func (PySem.W.fnOf "rule_table" "rule_table" (defArgs s_rule_table) (defBody s_rule_table) (defScope s_rule_table) .none kV29 dc29 pm29 an29 cd29 ct29), sl29⟩)
    (c29 : PySem.W.codeIn K cd29 "rule_table" = true)
    (k29 : PySem.W.keepIn K (.ref f29) = true)
    (a30 : PySem.W.nsIn K mainGlobals "court" = some (some (.ref f30)))
    (l30 : K.lookup f30 = some ⟨oc30, od30, .func (PySem.W.fnOf "court" "court" (defArgs s_court) (defBody s_court) (defScope s_court) .none kV30 dc30 pm30 an30 cd30 ct30), sl30⟩)
    (c30 : PySem.W.codeIn K cd30 "court" = true)
    (k30 : PySem.W.keepIn K (.ref f30) = true)
    (a31 : PySem.W.nsIn K mainGlobals "_law_draw" = some (some (.ref f31)))
    (l31 : K.lookup f31 = some ⟨oc31, od31, .func (PySem.W.fnOf "_law_draw" "_law_draw" (defArgs s_law_draw) (defBody s_law_draw) (defScope s_law_draw) .none kV31 dc31 pm31 an31 cd31 ct31), sl31⟩)
    (c31 : PySem.W.codeIn K cd31 "_law_draw" = true)
    (k31 : PySem.W.keepIn K (.ref f31) = true)
    (a32 : PySem.W.nsIn K mainGlobals "_law_pick" = some (some (.ref f32)))
    (l32 : K.lookup f32 = some ⟨oc32, od32, .func (PySem.W.fnOf "_law_pick" "_law_pick" (defArgs s_law_pick) (defBody s_law_pick) (defScope s_law_pick) .none kV32 dc32 pm32 an32 cd32 ct32), sl32⟩)
    (c32 : PySem.W.codeIn K cd32 "_law_pick" = true)
    (k32 : PySem.W.keepIn K (.ref f32) = true)
    (a33 : PySem.W.nsIn K mainGlobals "_law_deal" = some (some (.ref f33)))
    (l33 : K.lookup f33 = some ⟨oc33, od33, .func (PySem.W.fnOf "_law_deal" "_law_deal" (defArgs s_law_deal) (defBody s_law_deal) (defScope s_law_deal) .none kV33 dc33 pm33 an33 cd33 ct33), sl33⟩)
    (c33 : PySem.W.codeIn K cd33 "_law_deal" = true)
    (k33 : PySem.W.keepIn K (.ref f33) = true)
    (a34 : PySem.W.nsIn K mainGlobals "_law_names" = some (some (.ref f34)))
    (l34 : K.lookup f34 = some ⟨oc34, od34, .func (PySem.W.fnOf "_law_names" "_law_names" (defArgs s_law_names) (defBody s_law_names) (defScope s_law_names) .none kV34 dc34 pm34 an34 cd34 ct34), sl34⟩)
    (c34 : PySem.W.codeIn K cd34 "_law_names" = true)
    (k34 : PySem.W.keepIn K (.ref f34) = true)
    (a35 : PySem.W.nsIn K mainGlobals "_law_events" = some (some (.ref f35)))
    (l35 : K.lookup f35 = some ⟨oc35, od35, .func (PySem.W.fnOf "_law_events" "_law_events" (defArgs s_law_events) (defBody s_law_events) (defScope s_law_events) .none kV35 dc35 pm35 an35 cd35 ct35), sl35⟩)
    (c35 : PySem.W.codeIn K cd35 "_law_events" = true)
    (k35 : PySem.W.keepIn K (.ref f35) = true)
    (a36 : PySem.W.nsIn K mainGlobals "_law_book" = some (some (.ref f36)))
    (l36 : K.lookup f36 = some ⟨oc36, od36, .func (PySem.W.fnOf "_law_book" "_law_book" (defArgs s_law_book) (defBody s_law_book) (defScope s_law_book) .none kV36 dc36 pm36 an36 cd36 ct36), sl36⟩)
    (c36 : PySem.W.codeIn K cd36 "_law_book" = true)
    (k36 : PySem.W.keepIn K (.ref f36) = true)
    (a37 : PySem.W.nsIn K mainGlobals "_law_free" = some (some (.ref f37)))
    (l37 : K.lookup f37 = some ⟨oc37, od37, .func (PySem.W.fnOf "_law_free" "_law_free" (defArgs s_law_free) (defBody s_law_free) (defScope s_law_free) .none kV37 dc37 pm37 an37 cd37 ct37), sl37⟩)
    (c37 : PySem.W.codeIn K cd37 "_law_free" = true)
    (k37 : PySem.W.keepIn K (.ref f37) = true)
    (a38 : PySem.W.nsIn K mainGlobals "_law_stay" = some (some (.ref f38)))
    (l38 : K.lookup f38 = some ⟨oc38, od38, .func (PySem.W.fnOf "_law_stay" "_law_stay" (defArgs s_law_stay) (defBody s_law_stay) (defScope s_law_stay) .none kV38 dc38 pm38 an38 cd38 ct38), sl38⟩)
    (c38 : PySem.W.codeIn K cd38 "_law_stay" = true)
    (k38 : PySem.W.keepIn K (.ref f38) = true)
    (a39 : PySem.W.nsIn K mainGlobals "_law_spread" = some (some (.ref f39)))
    (l39 : K.lookup f39 = some ⟨oc39, od39, .func (PySem.W.fnOf "_law_spread" "_law_spread" (defArgs s_law_spread) (defBody s_law_spread) (defScope s_law_spread) .none kV39 dc39 pm39 an39 cd39 ct39), sl39⟩)
    (c39 : PySem.W.codeIn K cd39 "_law_spread" = true)
    (k39 : PySem.W.keepIn K (.ref f39) = true)
    (a40 : PySem.W.nsIn K mainGlobals "_law_after" = some (some (.ref f40)))
    (l40 : K.lookup f40 = some ⟨oc40, od40, .func (PySem.W.fnOf "_law_after" "_law_after" (defArgs s_law_after) (defBody s_law_after) (defScope s_law_after) .none kV40 dc40 pm40 an40 cd40 ct40), sl40⟩)
    (c40 : PySem.W.codeIn K cd40 "_law_after" = true)
    (k40 : PySem.W.keepIn K (.ref f40) = true)
    (a41 : PySem.W.nsIn K mainGlobals "_law_tried" = some (some (.ref f41)))
    (l41 : K.lookup f41 = some ⟨oc41, od41, .func (PySem.W.fnOf "_law_tried" "_law_tried" (defArgs s_law_tried) (defBody s_law_tried) (defScope s_law_tried) .none kV41 dc41 pm41 an41 cd41 ct41), sl41⟩)
    (c41 : PySem.W.codeIn K cd41 "_law_tried" = true)
    (k41 : PySem.W.keepIn K (.ref f41) = true)
    (a42 : PySem.W.nsIn K mainGlobals "_law_short" = some (some (.ref f42)))
    (l42 : K.lookup f42 = some ⟨oc42, od42, .func (PySem.W.fnOf "_law_short" "_law_short" (defArgs s_law_short) (defBody s_law_short) (defScope s_law_short) .none kV42 dc42 pm42 an42 cd42 ct42), sl42⟩)
    (c42 : PySem.W.codeIn K cd42 "_law_short" = true)
    (k42 : PySem.W.keepIn K (.ref f42) = true)
    (a43 : PySem.W.findIn K (.ref CD) "__eq__" = some (some (.ref f43)))
    (i43 : PySem.W.isFn K (.ref f43) = true)
    (l43 : K.lookup f43 = some ⟨oc43, od43, .func (PySem.W.fnOf "__eq__" "Dealt.__eq__" (defArgs s_Dealt__eq) (defBody s_Dealt__eq) (defScope s_Dealt__eq) .none kV43 dc43 pm43 an43 cd43 ct43), sl43⟩)
    (c43 : PySem.W.codeIn K cd43 "Dealt.__eq__" = true)
    (k43 : PySem.W.keepIn K (.ref f43) = true)
    (a44 : PySem.W.nsIn K mainGlobals "law" = some (some (.ref f44)))
    (l44 : K.lookup f44 = some ⟨oc44, od44, .func (PySem.W.fnOf "law" "law" (defArgs s_law) (defBody s_law) (defScope s_law) .none kV44 dc44 pm44 an44 cd44 ct44), sl44⟩)
    (c44 : PySem.W.codeIn K cd44 "law" = true)
    (k44 : PySem.W.keepIn K (.ref f44) = true)
    : ∃ fd : FuncData, (∀ (s : Shared) (v : Value), BindsTo s fd ⟨[v], []⟩ [("_law_script", v)]) ∧ ∀ base : Heap, K.In base → base.Ns mainGlobals mg → FnOk l.prog w K mg base CX0 9 fa fd ["_law_script"] (sp_law K) := by
  have e := hfa.symm.trans (PySem.W.mg_of X G a44)
  cases e
  have T : Bl mg := ⟨PySem.W.mg_none_of X G z_len, PySem.W.mg_none_of X G z_isinstance, PySem.W.mg_none_of X G z_all, PySem.W.mg_none_of X G z_sorted, PySem.W.mg_none_of X G z_set, PySem.W.mg_none_of X G z_tuple, PySem.W.mg_none_of X G z_list, PySem.W.mg_none_of X G z_sum, PySem.W.mg_none_of X G z_max, PySem.W.mg_none_of X G z_min, PySem.W.mg_none_of X G z_enumerate, PySem.W.mg_none_of X G z_range, PySem.W.mg_none_of X G z_zip, PySem.W.mg_none_of X G z_int, PySem.W.mg_none_of X G z_bool, PySem.W.mg_none_of X G z_str, PySem.W.mg_none_of X G z_abs, PySem.W.mg_none_of X G z_repr, ⟨_, PySem.W.mg_of X G v_LETTERS⟩, ⟨_, PySem.W.mg_of X G v_LONGEST⟩, ⟨_, PySem.W.mg_of X G v_FEWEST⟩, ⟨_, PySem.W.mg_of X G v_MOST⟩⟩
  let Z : Za := ⟨CY, CD, CS⟩
  have clY : Cls K CY := ⟨pgY, hdY, poY, saY⟩
  have clD : Cls K CD := ⟨pgD, hdD, poD, saD⟩
  have clS : Cls K CS := ⟨pgS, hdS, poS, saS⟩
  have C : Cf K Z := ⟨clY, yh, clD, dt, clS, s1, s2, s3⟩
  have I : Ci K Z := ⟨iD, iS, ihn, iht, imD, imS, kDD, kDS, kSS, kSD⟩
  have F1 := fun_mk (st := s_is_integer) l1 c1 k1
  have F2 := fun_mk (st := s_is_below) l2 c2 k2
  have F3 := fun_mk (st := s_is_text) l3 c3 k3
  have F4 := fun_mk (st := s_is_sequence) l4 c4 k4
  have F5 := fun_mk (st := s_is_pair) l5 c5 k5
  have F6 := fun_mk (st := s_is_name) l6 c6 k6
  have F7 := fun_mk (st := s_need_number) l7 c7 k7
  have F8 := fun_mk (st := s_lot_of) l8 c8 k8
  have F9 := fun_mk (st := s_Yard__init) l9 c9 k9
  have F10 := fun_mk (st := s_places) l10 c10 k10
  have F11 := fun_mk (st := s_layer) l11 c11 k11
  have F12 := fun_mk (st := s_is_event) l12 c12 k12
  have F13 := fun_mk (st := s_event_fault) l13 c13 k13
  have F14 := fun_mk (st := s_need_timetable) l14 c14 k14
  have F15 := fun_mk (st := s_need_state) l15 c15 k15
  have F16 := fun_mk (st := s_state_boxes) l16 c16 k16
  have F17 := fun_mk (st := s_free_counts) l17 c17 k17
  have F18 := fun_mk (st := s_presence_table) l18 c18 k18
  have F19 := fun_mk (st := s_owed) l19 c19 k19
  have F20 := fun_mk (st := s_yard_covers) l20 c20 k20
  have F21 := fun_mk (st := s_rows_below) l21 c21 k21
  have F22 := fun_mk (st := s_staying) l22 c22 k22
  have F23 := fun_mk (st := s_Dealt__init) l23 c23 k23
  have F24 := fun_mk (st := s_Short__init) l24 c24 k24
  have F25 := fun_mk (st := s_shorts) l25 c25 k25
  have F26 := fun_mk (st := s_stuck_event) l26 c26 k26
  have F27 := fun_mk (st := s_stretch_from) l27 c27 k27
  have F28 := fun_mk (st := s_latest_leavers) l28 c28 k28
  have F29 := fun_mk (st := s_rule_table) l29 c29 k29
  have F30 := fun_mk (st := s_court) l30 c30 k30
  have F31 := fun_mk (st := s_law_draw) l31 c31 k31
  have F32 := fun_mk (st := s_law_pick) l32 c32 k32
  have F33 := fun_mk (st := s_law_deal) l33 c33 k33
  have F34 := fun_mk (st := s_law_names) l34 c34 k34
  have F35 := fun_mk (st := s_law_events) l35 c35 k35
  have F36 := fun_mk (st := s_law_book) l36 c36 k36
  have F37 := fun_mk (st := s_law_free) l37 c37 k37
  have F38 := fun_mk (st := s_law_stay) l38 c38 k38
  have F39 := fun_mk (st := s_law_spread) l39 c39 k39
  have F40 := fun_mk (st := s_law_after) l40 c40 k40
  have F41 := fun_mk (st := s_law_tried) l41 c41 k41
  have F42 := fun_mk (st := s_law_short) l42 c42 k42
  have F43 := fun_mk (st := s_Dealt__eq) l43 c43 k43
  have F44 := fun_mk (st := s_law) l44 c44 k44
  refine ⟨PySem.W.fnOf "law" "law" (defArgs s_law) (defBody s_law) (defScope s_law) .none kV44 dc44 pm44 an44 cd44 ct44, fun s v => .of_eq rfl, fun base _ _ => ?_⟩
  have gD : MkG mg "Dealt" CD := ⟨PySem.W.mg_of X G aCD⟩
  have gS : MkG mg "Short" CS := ⟨PySem.W.mg_of X G aCS⟩
  have d1 := c_is_integer (P := l.prog) (w := w) (K := K) (mg := mg) (base := base) (Z := Z) F1 (PySem.W.mg_of X G a1) T 
  have d2 := c_is_below (P := l.prog) (w := w) (K := K) (mg := mg) (base := base) (Z := Z) F2 (PySem.W.mg_of X G a2) T d1
  have d3 := c_is_text (P := l.prog) (w := w) (K := K) (mg := mg) (base := base) (Z := Z) F3 (PySem.W.mg_of X G a3) T 
  have d4 := c_is_sequence (P := l.prog) (w := w) (K := K) (mg := mg) (base := base) (Z := Z) F4 (PySem.W.mg_of X G a4) T 
  have d5 := c_is_pair (P := l.prog) (w := w) (K := K) (mg := mg) (base := base) (Z := Z) F5 (PySem.W.mg_of X G a5) T 
  have d6 := c_is_name (P := l.prog) (w := w) (K := K) (mg := mg) (base := base) (Z := Z) F6 (PySem.W.mg_of X G a6) T d3
  have d7 := c_need_number (P := l.prog) (w := w) (K := K) (mg := mg) (base := base) (Z := Z) F7 (PySem.W.mg_of X G a7) T d2
  have d8 := c_lot_of (P := l.prog) (w := w) (K := K) (mg := mg) (base := base) (Z := Z) F8 (PySem.W.mg_of X G a8) T 
  have m_Yard_ : MkC l.prog w K mg base 3 "Yard" Z.Y ["self", "heights"] (sp_Yard_init K Z) := ⟨PySem.W.mg_of X G aCY, clY, f9, _, ⟨mkY, a9, i9, kcY⟩, F9.binds (ps := ["self", "heights"]) fun _ _ _ _ _ _ us hl => match us, hl with | [_, _], _ => rfl, m_Yard (P := l.prog) (w := w) (K := K) (mg := mg) (base := base) (Z := Z) F9 T d4 d2 C⟩
  have d10 := c_places (P := l.prog) (w := w) (K := K) (mg := mg) (base := base) (Z := Z) F10 (PySem.W.mg_of X G a10) T C
  have d11 := c_layer (P := l.prog) (w := w) (K := K) (mg := mg) (base := base) (Z := Z) F11 (PySem.W.mg_of X G a11) T C
  have d12 := c_is_event (P := l.prog) (w := w) (K := K) (mg := mg) (base := base) (Z := Z) F12 (PySem.W.mg_of X G a12) T d5 d6
  have d13 := c_event_fault (P := l.prog) (w := w) (K := K) (mg := mg) (base := base) (Z := Z) F13 (PySem.W.mg_of X G a13) T d12
  have d14 := c_need_timetable (P := l.prog) (w := w) (K := K) (mg := mg) (base := base) (Z := Z) F14 (PySem.W.mg_of X G a14) T d13 d10
  have d15 := c_need_state (P := l.prog) (w := w) (K := K) (mg := mg) (base := base) (Z := Z) F15 (PySem.W.mg_of X G a15) T d7
  have d16 := c_state_boxes (P := l.prog) (w := w) (K := K) (mg := mg) (base := base) (Z := Z) F16 (PySem.W.mg_of X G a16) T d15 d8
  have d17 := c_free_counts (P := l.prog) (w := w) (K := K) (mg := mg) (base := base) (Z := Z) F17 (PySem.W.mg_of X G a17) T d14 d10
  have d18 := c_presence_table (P := l.prog) (w := w) (K := K) (mg := mg) (base := base) (Z := Z) F18 (PySem.W.mg_of X G a18) T 
  have d19 := c_owed (P := l.prog) (w := w) (K := K) (mg := mg) (base := base) (Z := Z) F19 (PySem.W.mg_of X G a19) T C
  have d20 := c_yard_covers (P := l.prog) (w := w) (K := K) (mg := mg) (base := base) (Z := Z) F20 (PySem.W.mg_of X G a20) T C
  have d21 := c_rows_below (P := l.prog) (w := w) (K := K) (mg := mg) (base := base) (Z := Z) F21 (PySem.W.mg_of X G a21) T 
  have d22 := c_staying (P := l.prog) (w := w) (K := K) (mg := mg) (base := base) (Z := Z) F22 (PySem.W.mg_of X G a22) T d8
  have m_Dealt_ : MkC l.prog w K mg base 1 "Dealt" Z.D ["self", "table"] (sp_Dealt_init K Z) := ⟨PySem.W.mg_of X G aCD, clD, f23, _, ⟨mkD, a23, i23, kcD⟩, F23.binds (ps := ["self", "table"]) fun _ _ _ _ _ _ us hl => match us, hl with | [_, _], _ => rfl, m_Dealt (P := l.prog) (w := w) (K := K) (mg := mg) (base := base) (Z := Z) F23 T C⟩
  have m_Short_ : MkC l.prog w K mg base 1 "Short" Z.S ["self", "cover", "stretch", "stayers"] (sp_Short_init K Z) := ⟨PySem.W.mg_of X G aCS, clS, f24, _, ⟨mkS, a24, i24, kcS⟩, F24.binds (ps := ["self", "cover", "stretch", "stayers"]) fun _ _ _ _ _ _ us hl => match us, hl with | [_, _, _, _], _ => rfl, m_Short (P := l.prog) (w := w) (K := K) (mg := mg) (base := base) (Z := Z) F24 T C⟩
  have d25 := c_shorts (P := l.prog) (w := w) (K := K) (mg := mg) (base := base) (Z := Z) F25 (PySem.W.mg_of X G a25) T d17 d18 d20 d21 d22 d19 m_Short_
  have d26 := ok_stuck_event (P := l.prog) (w := w) (K := K) (mg := mg) (base := base) (Z := Z) F26 T d17 d18 d20 d21 d19
  have d27 := c_stretch_from (P := l.prog) (w := w) (K := K) (mg := mg) (base := base) (Z := Z) F27 (PySem.W.mg_of X G a27) T 
  have d28 := c_latest_leavers (P := l.prog) (w := w) (K := K) (mg := mg) (base := base) (Z := Z) F28 (PySem.W.mg_of X G a28) T d16
  have d29 := c_rule_table (P := l.prog) (w := w) (K := K) (mg := mg) (base := base) (Z := Z) F29 (PySem.W.mg_of X G a29) T d17 d18 d11 d27 d28
  have d30 := c_court (P := l.prog) (w := w) (K := K) (mg := mg) (base := base) (Z := Z) F30 (PySem.W.mg_of X G a30) T d25 d29 m_Dealt_
  have d31 := c_law_draw (P := l.prog) (w := w) (K := K) (mg := mg) (base := base) (Z := Z) F31 (PySem.W.mg_of X G a31) T 
  have d32 := c_law_pick (P := l.prog) (w := w) (K := K) (mg := mg) (base := base) (Z := Z) F32 (PySem.W.mg_of X G a32) T d31
  have d33 := c_law_deal (P := l.prog) (w := w) (K := K) (mg := mg) (base := base) (Z := Z) F33 (PySem.W.mg_of X G a33) T 
  have d34 := c_law_names (P := l.prog) (w := w) (K := K) (mg := mg) (base := base) (Z := Z) F34 (PySem.W.mg_of X G a34) T d31 d32
  have d35 := c_law_events (P := l.prog) (w := w) (K := K) (mg := mg) (base := base) (Z := Z) F35 (PySem.W.mg_of X G a35) T d31
  have d36 := c_law_book (P := l.prog) (w := w) (K := K) (mg := mg) (base := base) (Z := Z) F36 (PySem.W.mg_of X G a36) T 
  have d37 := c_law_free (P := l.prog) (w := w) (K := K) (mg := mg) (base := base) (Z := Z) F37 (PySem.W.mg_of X G a37) T 
  have d38 := c_law_stay (P := l.prog) (w := w) (K := K) (mg := mg) (base := base) (Z := Z) F38 (PySem.W.mg_of X G a38) T 
  have d39 := c_law_spread (P := l.prog) (w := w) (K := K) (mg := mg) (base := base) (Z := Z) F39 (PySem.W.mg_of X G a39) T 
  have d40 := c_law_after (P := l.prog) (w := w) (K := K) (mg := mg) (base := base) (Z := Z) F40 (PySem.W.mg_of X G a40) T 
  have d41 := c_law_tried (P := l.prog) (w := w) (K := K) (mg := mg) (base := base) (Z := Z) F41 (PySem.W.mg_of X G a41) T d39 d40
  have d42 := c_law_short (P := l.prog) (w := w) (K := K) (mg := mg) (base := base) (Z := Z) F42 (PySem.W.mg_of X G a42) T d37 d36 d38 C
  have e_Dealt := q_Dealt (P := l.prog) (w := w) (K := K) (mg := mg) (base := base) (Z := Z) F43 T C I gD
  have b_eq := F43.binds (ps := ["self", "other"]) fun _ _ _ _ _ _ us hl => match us, hl with | [_, _], _ => rfl
  exact ok_law (P := l.prog) (w := w) (K := K) (mg := mg) (base := base) (Z := Z) F44 T d33 d32 d31 d34 d35 d41 d30 d42 m_Yard_ gD gS ⟨f26, _, PySem.W.mg_of X G a26, k26, kb_stuck F26, d26⟩ C I ⟨e_Dealt, a43, i43, b_eq⟩
end K19
open PySem PySem.W PyProof.Rows
set_option maxRecDepth 100000 in
set_option maxHeartbeats 0 in
theorem PySem.Challenge.cw_staysdeep_k19_whole_courts_of_five_place_holds : PySem.Challenge.rw_staysdeep_k19_whole_courts_of_five_place.Holds := by
  refine head ?_
  k_fill
  refine L2.walk_of (l := PySem.Challenge.rw_staysdeep_k19_whole_courts_of_five_place) (n := 63) (k := 9) (x := "_law_script") (CX := fun _ => L2.CX0) (sp := fun w => K19.sp_law _) rfl (by decide) rfl ⟨rfl, by decide, by decide⟩ (fun w h Y => PySem.W.kIn_of Y) ?F (fun _ _ a ns hl _ hS => ⟨a, ns, rfl, hS, hl, fun _ => rfl⟩) (fun _ _ _ _ _ h => h)
  case F =>
    intro w mg fa h KX G hmg
    refine' K19.all_mk KX G hmg ?aCY ?pgY ?hdY ?poY ?saY ?mkY ?kcY ?aCD ?pgD ?hdD ?poD ?saD ?mkD ?kcD ?aCS ?pgS ?hdS ?poS ?saS ?mkS ?kcS ?yh ?dt ?s1 ?s2 ?s3 ?iD ?iS ?ihn ?iht ?imD ?imS ?kDD ?kDS ?kSS ?kSD ?z_len ?z_isinstance ?z_all ?z_sorted ?z_set ?z_tuple ?z_list ?z_sum ?z_max ?z_min ?z_enumerate ?z_range ?z_zip ?z_int ?z_bool ?z_str ?z_abs ?z_repr ?v_LETTERS ?v_LONGEST ?v_FEWEST ?v_MOST ?a1 ?l1 ?c1 ?k1 ?a2 ?l2 ?c2 ?k2 ?a3 ?l3 ?c3 ?k3 ?a4 ?l4 ?c4 ?k4 ?a5 ?l5 ?c5 ?k5 ?a6 ?l6 ?c6 ?k6 ?a7 ?l7 ?c7 ?k7 ?a8 ?l8 ?c8 ?k8 ?a9 ?i9 ?l9 ?c9 ?k9 ?a10 ?l10 ?c10 ?k10 ?a11 ?l11 ?c11 ?k11 ?a12 ?l12 ?c12 ?k12 ?a13 ?l13 ?c13 ?k13 ?a14 ?l14 ?c14 ?k14 ?a15 ?l15 ?c15 ?k15 ?a16 ?l16 ?c16 ?k16 ?a17 ?l17 ?c17 ?k17 ?a18 ?l18 ?c18 ?k18 ?a19 ?l19 ?c19 ?k19 ?a20 ?l20 ?c20 ?k20 ?a21 ?l21 ?c21 ?k21 ?a22 ?l22 ?c22 ?k22 ?a23 ?i23 ?l23 ?c23 ?k23 ?a24 ?i24 ?l24 ?c24 ?k24 ?a25 ?l25 ?c25 ?k25 ?a26 ?l26 ?c26 ?k26 ?a27 ?l27 ?c27 ?k27 ?a28 ?l28 ?c28 ?k28 ?a29 ?l29 ?c29 ?k29 ?a30 ?l30 ?c30 ?k30 ?a31 ?l31 ?c31 ?k31 ?a32 ?l32 ?c32 ?k32 ?a33 ?l33 ?c33 ?k33 ?a34 ?l34 ?c34 ?k34 ?a35 ?l35 ?c35 ?k35 ?a36 ?l36 ?c36 ?k36 ?a37 ?l37 ?c37 ?k37 ?a38 ?l38 ?c38 ?k38 ?a39 ?l39 ?c39 ?k39 ?a40 ?l40 ?c40 ?k40 ?a41 ?l41 ?c41 ?k41 ?a42 ?l42 ?c42 ?k42 ?a43 ?i43 ?l43 ?c43 ?k43 ?a44 ?l44 ?c44 ?k44
    (case aCY => k_is); (case pgY => k_is); (case hdY => k_is); (case poY => k_is); (case saY => k_is); (case mkY => k_is); (case kcY => k_is); (case aCD => k_is)
    (case pgD => k_is); (case hdD => k_is); (case poD => k_is); (case saD => k_is); (case mkD => k_is); (case kcD => k_is); (case aCS => k_is); (case pgS => k_is)
    (case hdS => k_is); (case poS => k_is); (case saS => k_is); (case mkS => k_is); (case kcS => k_is); (case yh => k_is); (case dt => k_is); (case s1 => k_is)
    (case s2 => k_is); (case s3 => k_is); (case iD => k_is); (case iS => k_is); (case ihn => k_is); (case iht => k_is); (case imD => k_is); (case imS => k_is)
    (case kDD => kit_is); (case kDS => kit_is); (case kSS => kit_is); (case kSD => kit_is); (case z_len => k_is); (case z_isinstance => k_is); (case z_all => k_is); (case z_sorted => k_is)
    (case z_set => k_is); (case z_tuple => k_is); (case z_list => k_is); (case z_sum => k_is); (case z_max => k_is); (case z_min => k_is); (case z_enumerate => k_is); (case z_range => k_is)
    (case z_zip => k_is); (case z_int => k_is); (case z_bool => k_is); (case z_str => k_is); (case z_abs => k_is); (case z_repr => k_is); (case v_LETTERS => k_is); (case v_LONGEST => k_is)
    (case v_FEWEST => k_is); (case v_MOST => k_is); (case a1 => k_is); (case l1 => k_is); (case c1 => k_is); (case k1 => k_is); (case a2 => k_is); (case l2 => k_is)
    (case c2 => k_is); (case k2 => k_is); (case a3 => k_is); (case l3 => k_is); (case c3 => k_is); (case k3 => k_is); (case a4 => k_is); (case l4 => k_is)
    (case c4 => k_is); (case k4 => k_is); (case a5 => k_is); (case l5 => k_is); (case c5 => k_is); (case k5 => k_is); (case a6 => k_is); (case l6 => k_is)
    (case c6 => k_is); (case k6 => k_is); (case a7 => k_is); (case l7 => k_is); (case c7 => k_is); (case k7 => k_is); (case a8 => k_is); (case l8 => k_is)
    (case c8 => k_is); (case k8 => k_is); (case a9 => k_is); (case i9 => k_is); (case l9 => k_is); (case c9 => k_is); (case k9 => k_is); (case a10 => k_is)
    (case l10 => k_is); (case c10 => k_is); (case k10 => k_is); (case a11 => k_is); (case l11 => k_is); (case c11 => k_is); (case k11 => k_is); (case a12 => k_is)
    (case l12 => k_is); (case c12 => k_is); (case k12 => k_is); (case a13 => k_is); (case l13 => k_is); (case c13 => k_is); (case k13 => k_is); (case a14 => k_is)
    (case l14 => k_is); (case c14 => k_is); (case k14 => k_is); (case a15 => k_is); (case l15 => k_is); (case c15 => k_is); (case k15 => k_is); (case a16 => k_is)
    (case l16 => k_is); (case c16 => k_is); (case k16 => k_is); (case a17 => k_is); (case l17 => k_is); (case c17 => k_is); (case k17 => k_is); (case a18 => k_is)
    (case l18 => k_is); (case c18 => k_is); (case k18 => k_is); (case a19 => k_is); (case l19 => k_is); (case c19 => k_is); (case k19 => k_is); (case a20 => k_is)
    (case l20 => k_is); (case c20 => k_is); (case k20 => k_is); (case a21 => k_is); (case l21 => k_is); (case c21 => k_is); (case k21 => k_is); (case a22 => k_is)
    (case l22 => k_is); (case c22 => k_is); (case k22 => k_is); (case a23 => k_is); (case i23 => k_is); (case l23 => k_is); (case c23 => k_is); (case k23 => k_is)
    (case a24 => k_is); (case i24 => k_is); (case l24 => k_is); (case c24 => k_is); (case k24 => k_is); (case a25 => k_is); (case l25 => k_is); (case c25 => k_is)
    (case k25 => k_is); (case a26 => k_is); (case l26 => k_is); (case c26 => k_is); (case k26 => k_is); (case a27 => k_is); (case l27 => k_is); (case c27 => k_is)
    (case k27 => k_is); (case a28 => k_is); (case l28 => k_is); (case c28 => k_is); (case k28 => k_is); (case a29 => k_is); (case l29 => k_is); (case c29 => k_is)
    (case k29 => k_is); (case a30 => k_is); (case l30 => k_is); (case c30 => k_is); (case k30 => k_is); (case a31 => k_is); (case l31 => k_is); (case c31 => k_is)
    (case k31 => k_is); (case a32 => k_is); (case l32 => k_is); (case c32 => k_is); (case k32 => k_is); (case a33 => k_is); (case l33 => k_is); (case c33 => k_is)
    (case k33 => k_is); (case a34 => k_is); (case l34 => k_is); (case c34 => k_is); (case k34 => k_is); (case a35 => k_is); (case l35 => k_is); (case c35 => k_is)
    (case k35 => k_is); (case a36 => k_is); (case l36 => k_is); (case c36 => k_is); (case k36 => k_is); (case a37 => k_is); (case l37 => k_is); (case c37 => k_is)
    (case k37 => k_is); (case a38 => k_is); (case l38 => k_is); (case c38 => k_is); (case k38 => k_is); (case a39 => k_is); (case l39 => k_is); (case c39 => k_is)
    (case k39 => k_is); (case a40 => k_is); (case l40 => k_is); (case c40 => k_is); (case k40 => k_is); (case a41 => k_is); (case l41 => k_is); (case c41 => k_is)
    (case k41 => k_is); (case a42 => k_is); (case l42 => k_is); (case c42 => k_is); (case k42 => k_is); (case a43 => k_is); (case i43 => k_is); (case l43 => k_is)
    (case c43 => k_is); (case k43 => k_is); (case a44 => k_is); (case l44 => k_is); (case c44 => k_is); (case k44 => k_is)
end
