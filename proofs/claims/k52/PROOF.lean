import PyProof.Rows.All
import Wide.All
import OpenK.AllK
import Wide.FinOn
import HandS.ForMost
import HandS.Walk
import KE.GoesEnum
import HandS.IsInst
import HandS.Defaults
import HandS.MakeKwOnly
import PySem.Challenge.RW_whofirst_k52_whole_rolls_answer_as_one_t
set_option Elab.async false
set_option linter.all false
set_option maxRecDepth 100000
set_option maxHeartbeats 8000000
namespace Wf
/-! Plain Lean: what a roll computes, and that its answers are those of one thing. -/
abbrev Tb := List (List (Nat × Nat))

def rowAt (T : Tb) (op st : Nat) : Nat × Nat := (T.getD op []).getD st (0, 0)
def run (T : Tb) : Nat → List (Nat × Nat) → Nat
  | s, [] => s
  | s, c :: cs => run T (rowAt T c.2 s).2 cs
def anss (T : Tb) : Nat → List (Nat × Nat) → List (Nat × Nat)
  | _, [] => []
  | s, c :: cs => (c.1, (rowAt T c.2 s).1) :: anss T (rowAt T c.2 s).2 cs
def pick (h : Nat) (xs : List (Nat × Nat)) : List Nat := (xs.filter fun c => c.1 == h).map (·.2)

theorem run_append (T : Tb) : ∀ (xs ys : List (Nat × Nat)) (s : Nat), run T s (xs ++ ys) = run T (run T s xs) ys
  | [], _, _ => rfl
  | c :: cs, ys, s => run_append T cs ys _
theorem anss_append (T : Tb) : ∀ (xs ys : List (Nat × Nat)) (s : Nat), anss T s (xs ++ ys) = anss T s xs ++ anss T (run T s xs) ys
  | [], _, _ => rfl
  | c :: cs, ys, s => congrArg ((c.1, (rowAt T c.2 s).1) :: ·) (anss_append T cs ys _)
theorem pick_append (h : Nat) (xs ys : List (Nat × Nat)) : pick h (xs ++ ys) = pick h xs ++ pick h ys := by
  unfold pick
  rw [List.filter_append, List.map_append]
theorem pick_nil (h : Nat) : pick h [] = [] := rfl
theorem pick_self (h o : Nat) : pick h [(h, o)] = [o] := by
  unfold pick
  simp
theorem pick_other {h g : Nat} (o : Nat) (n : g ≠ h) : pick h [(g, o)] = [] := by
  unfold pick
  simp [n]
theorem pick_cons_self (h o : Nat) (xs : List (Nat × Nat)) : pick h ((h, o) :: xs) = o :: pick h xs := by
  unfold pick
  simp
theorem pick_cons_other {h g : Nat} (o : Nat) (xs : List (Nat × Nat)) (n : g ≠ h) : pick h ((g, o) :: xs) = pick h xs := by
  unfold pick
  simp [n]
theorem pick_anss_length (T : Tb) (h : Nat) : ∀ (cs : List (Nat × Nat)) (s : Nat), (pick h (anss T s cs)).length = (pick h cs).length
  | [], _ => rfl
  | (g, o) :: cs, s => by
    have ih := pick_anss_length T h cs (rowAt T o s).2
    show (pick h ((g, (rowAt T o s).1) :: anss T (rowAt T o s).2 cs)).length = _
    by_cases e : g = h
    · subst e
      rw [pick_cons_self, pick_cons_self, List.length_cons, List.length_cons, ih]
    · rw [pick_cons_other _ _ e, pick_cons_other _ _ e, ih]
theorem pick_none {h : Nat} {xs : List (Nat × Nat)} (n : (xs.any fun c => c.1 == h) = false) : pick h xs = [] := by
  unfold pick
  rw [List.map_eq_nil_iff, List.filter_eq_nil_iff]
  intro c hc e
  have := List.any_eq_false.mp n c hc
  exact this e
theorem take_succ_of {α : Type} {xs : List α} {i : Nat} {x : α} (h : xs[i]? = some x) : xs.take (i + 1) = xs.take i ++ [x] := by
  rw [List.take_add_one, h]
  rfl

/-- a roll's state: the cells; by hand what it asked, how far it went, its stand -/
structure RS where
  cells : List (Nat × Nat)
  asked : List (Option Nat)
  gone : List Nat
  here : List Nat
def isPut (S : RS) (h : Nat) : Bool := (S.cells.drop (S.gone.getD h 0)).any fun c => c.1 == h
def winner (n : Nat) (S : RS) (h : Nat) : Nat :=
  if (S.asked.getD (S.cells.length % n) none).isSome && !isPut S (S.cells.length % n) then S.cells.length % n else h
def grown (n : Nat) (S : RS) (h : Nat) : List (Nat × Nat) :=
  if S.gone.getD h 0 = S.cells.length then S.cells ++ [(winner n S h, (S.asked.getD (winner n S h) none).getD 0)] else S.cells
def cellAt (n : Nat) (S : RS) (h : Nat) : Nat × Nat := (grown n S h).getD (S.gone.getD h 0) (0, 0)
def rowOf (T : Tb) (n : Nat) (S : RS) (h : Nat) : Nat × Nat := rowAt T (cellAt n S h).2 (S.here.getD h 0)
def stepS (T : Tb) (n : Nat) (S : RS) (h : Nat) : RS where
  cells := grown n S h
  asked := if (cellAt n S h).1 = h then S.asked.set h none else S.asked
  gone := S.gone.set h (S.gone.getD h 0 + 1)
  here := S.here.set h (rowOf T n S h).2
def stepA (T : Tb) (n : Nat) (S : RS) (h : Nat) : Option Nat := if (cellAt n S h).1 = h then some (rowOf T n S h).1 else none
def askS (S : RS) (h op : Nat) : RS := { S with asked := S.asked.set h (some op) }

/-- what the code needs of a state -/
structure RWf (n : Nat) (T : Tb) (k : Nat) (S : RS) : Prop where
  la : S.asked.length = n
  lg : S.gone.length = n
  lh : S.here.length = n
  cells : ∀ c ∈ S.cells, c.1 < n ∧ c.2 < T.length
  ask : ∀ (h op : Nat), S.asked[h]? = some (some op) → op < T.length
  gle : ∀ g ∈ S.gone, g ≤ S.cells.length
  hlt : ∀ s ∈ S.here, s < k

/-- what is so of one hand -/
structure HandOk (T : Tb) (b : Nat) (cells : List (Nat × Nat)) (h : Nat) (a : Option Nat) (g s : Nat) (As Rs : List Nat) : Prop where
  gle : g ≤ cells.length
  st : s = run T b (cells.take g)
  rs : Rs = pick h (anss T b (cells.take g))
  ops : pick h cells <+: As
  pend : (a = none ∧ As.length = Rs.length) ∨ (∃ op, a = some op ∧ As.length = Rs.length + 1 ∧ As[Rs.length]? = some op)
structure LInv (n : Nat) (T : Tb) (b : Nat) (S : RS) (A R : List (List Nat)) : Prop where
  la : S.asked.length = n
  lg : S.gone.length = n
  lh : S.here.length = n
  lA : A.length = n
  lR : R.length = n
  cells : ∀ c ∈ S.cells, c.1 < n ∧ c.2 < T.length
  opsOk : ∀ As ∈ A, ∀ op ∈ As, op < T.length
  per : ∀ h, h < n → HandOk T b S.cells h (S.asked.getD h none) (S.gone.getD h 0) (S.here.getD h 0) (A.getD h []) (R.getD h [])

theorem getD_of {α : Type} {xs : List α} {i : Nat} {x d : α} (h : xs[i]? = some x) : xs.getD i d = x := by
  rw [List.getD_eq_getElem?_getD, h]
  rfl
theorem get_getD {α : Type} {xs : List α} {i : Nat} (d : α) (h : i < xs.length) : xs[i]? = some (xs.getD i d) := by
  rw [List.getD_eq_getElem?_getD, List.getElem?_eq_getElem h]
  rfl
theorem getD_set_self {α : Type} {xs : List α} {i : Nat} {x d : α} (h : i < xs.length) : (xs.set i x).getD i d = x := by
  rw [List.getD_eq_getElem?_getD, List.getElem?_set_self h]
  rfl
theorem getD_set_ne {α : Type} {xs : List α} {i j : Nat} {x d : α} (h : i ≠ j) : (xs.set i x).getD j d = xs.getD j d := by
  rw [List.getD_eq_getElem?_getD, List.getElem?_set_ne h, List.getD_eq_getElem?_getD]
theorem mem_getD {α : Type} {xs : List α} {i : Nat} (d : α) (h : i < xs.length) : xs.getD i d ∈ xs := by
  exact List.mem_of_getElem? (get_getD d h)
theorem mem_set_or {α : Type} {xs : List α} {i : Nat} {x y : α} (h : y ∈ xs.set i x) : y = x ∨ y ∈ xs := by
  rcases List.mem_or_eq_of_mem_set h with q | q
  · exact .inr q
  · exact .inl q

/-- where nothing of it stands behind, all its cells were gone -/
theorem HandOk.all_gone {T : Tb} {b : Nat} {cells : List (Nat × Nat)} {h : Nat} {a : Option Nat} {g s : Nat} {As Rs : List Nat} (o : HandOk T b cells h a g s As Rs)
    (n : ((cells.drop g).any fun c => c.1 == h) = false) : (pick h cells).length = Rs.length := by
  have e : pick h cells = pick h (cells.take g) ++ pick h (cells.drop g) := by rw [← pick_append, List.take_append_drop]
  rw [e, pick_none n, List.append_nil, o.rs, pick_anss_length]

/-- one more cell, which is own's asking, that stood in none -/
theorem HandOk.grow {T : Tb} {b : Nat} {cells : List (Nat × Nat)} {h own op : Nat} {a : Option Nat} {g s : Nat} {As Rs : List Nat} (o : HandOk T b cells h a g s As Rs)
    (q : own = h → a = some op ∧ (pick h cells).length = Rs.length) : HandOk T b (cells ++ [(own, op)]) h a g s As Rs := by
  have e : (cells ++ [(own, op)]).take g = cells.take g := List.take_append_of_le_length o.gle
  refine ⟨by rw [List.length_append]; exact Nat.le_trans o.gle (Nat.le_add_right _ _), by rw [e]; exact o.st, by rw [e]; exact o.rs, ?_, o.pend⟩
  rw [pick_append]
  by_cases eh : own = h
  · obtain ⟨ea, el⟩ := q eh
    subst eh
    rw [pick_self]
    rcases o.pend with ⟨z, _⟩ | ⟨op', z, l, at_⟩
    · rw [z] at ea
      cases ea
    · rw [z] at ea
      cases ea
      obtain ⟨r, hr⟩ := o.ops
      rw [← hr, ← el, List.getElem?_append_right (Nat.le_refl _), Nat.sub_self] at at_
      cases r with
      | nil => cases at_
      | cons x r =>
        have ex : x = op := Option.some.inj at_
        subst ex
        exact ⟨r, by rw [← hr, List.append_assoc]; rfl⟩
  · rw [pick_other _ eh, List.append_nil]
    exact o.ops

theorem grown_ok {n : Nat} {T : Tb} {b : Nat} {S : RS} {A R : List (List Nat)} (L : LInv n T b S A R) {h op : Nat} (hh : h < n) (ha : S.asked.getD h none = some op) :
    (∀ j, j < n → HandOk T b (grown n S h) j (S.asked.getD j none) (S.gone.getD j 0) (S.here.getD j 0) (A.getD j []) (R.getD j [])) ∧
      (∀ c ∈ grown n S h, c.1 < n ∧ c.2 < T.length) ∧ S.gone.getD h 0 < (grown n S h).length := by
  have o := L.per h hh
  unfold grown
  by_cases eg : S.gone.getD h 0 = S.cells.length
  · rw [if_pos eg]
    have key : ∀ w, w = winner n S h → w < n ∧ ∃ p, S.asked.getD w none = some p ∧ (pick w S.cells).length = (R.getD w []).length := by
      intro w hw
      unfold winner at hw
      by_cases q : ((S.asked.getD (S.cells.length % n) none).isSome && !isPut S (S.cells.length % n)) = true
      · rw [if_pos q] at hw
        have hn : S.cells.length % n < n := Nat.mod_lt _ (by omega)
        rw [Bool.and_eq_true] at q
        obtain ⟨q1, q2⟩ := q
        rw [← hw] at q1 q2 hn
        obtain ⟨p, hp⟩ := Option.isSome_iff_exists.mp q1
        refine ⟨hn, p, hp, (L.per w hn).all_gone ?_⟩
        cases z : isPut S w with
        | true =>
          rw [z] at q2
          cases q2
        | false => exact z
      · rw [if_neg q] at hw
        subst hw
        refine ⟨hh, op, ha, o.all_gone ?_⟩
        rw [eg, List.drop_length]
        rfl
    obtain ⟨k1, p, k2, k3⟩ := key _ rfl
    refine ⟨fun j hj => ?_, fun c hc => ?_, by rw [List.length_append, eg]; exact Nat.lt_succ_self _⟩
    · refine (L.per j hj).grow fun e => ?_
      subst e
      rw [k2]
      exact ⟨rfl, k3⟩
    · rcases List.mem_append.mp hc with q | q
      · exact L.cells c q
      · have e := List.mem_singleton.mp q
        subst e
        refine ⟨k1, ?_⟩
        have ow := L.per _ k1
        rw [k2]
        rw [k2] at ow
        rcases ow.pend with ⟨z, _⟩ | ⟨op', z, l, at_⟩
        · cases z
        · cases z
          exact L.opsOk _ (mem_getD [] (by rw [L.lA]; exact k1)) _ (List.mem_of_getElem? at_)
  · rw [if_neg eg]
    exact ⟨L.per, L.cells, Nat.lt_of_le_of_ne o.gle eg⟩

/-- THE STEP: what was so stays so; R grows by what is told -/
theorem LInv.step {n : Nat} {T : Tb} {b : Nat} {S : RS} {A R : List (List Nat)} (L : LInv n T b S A R) {h op : Nat} (hh : h < n) (ha : S.asked.getD h none = some op) :
    LInv n T b (stepS T n S h) A (match stepA T n S h with | none => R | some r => R.set h (R.getD h [] ++ [r])) := by
  obtain ⟨g1, g2, g3⟩ := grown_ok L hh ha
  have hc : (grown n S h)[S.gone.getD h 0]? = some (cellAt n S h) := get_getD _ g3
  have o := g1 h hh
  have et : (grown n S h).take (S.gone.getD h 0 + 1) = (grown n S h).take (S.gone.getD h 0) ++ [cellAt n S h] := take_succ_of hc
  have hrow : rowOf T n S h = rowAt T (cellAt n S h).2 (run T b ((grown n S h).take (S.gone.getD h 0))) := by
    unfold rowOf
    rw [o.st]
  have est : (rowOf T n S h).2 = run T b ((grown n S h).take (S.gone.getD h 0 + 1)) := by
    rw [et, run_append, hrow]
    rfl
  have ean : anss T b ((grown n S h).take (S.gone.getD h 0 + 1)) = anss T b ((grown n S h).take (S.gone.getD h 0)) ++ [((cellAt n S h).1, (rowOf T n S h).1)] := by
    rw [et, anss_append, hrow]
    rfl
  unfold stepA
  by_cases e : (cellAt n S h).1 = h
  · rw [if_pos e]
    show LInv n T b (stepS T n S h) A (R.set h (R.getD h [] ++ [(rowOf T n S h).1]))
    have hl : h < S.asked.length := by rw [L.la]; exact hh
    refine ⟨?_, ?_, ?_, L.lA, by rw [List.length_set]; exact L.lR, g2, L.opsOk, fun j hj => ?_⟩
    · show (if (cellAt n S h).1 = h then S.asked.set h none else S.asked).length = n
      rw [if_pos e, List.length_set]
      exact L.la
    · show (S.gone.set h _).length = n
      rw [List.length_set]
      exact L.lg
    · show (S.here.set h _).length = n
      rw [List.length_set]
      exact L.lh
    · show HandOk T b (grown n S h) j ((if (cellAt n S h).1 = h then S.asked.set h none else S.asked).getD j none) ((S.gone.set h (S.gone.getD h 0 + 1)).getD j 0) ((S.here.set h (rowOf T n S h).2).getD j 0) (A.getD j []) ((R.set h (R.getD h [] ++ [(rowOf T n S h).1])).getD j [])
      rw [if_pos e]
      by_cases ej : h = j
      · subst ej
        rw [getD_set_self hl, getD_set_self (by rw [L.lg]; exact hh), getD_set_self (by rw [L.lh]; exact hh), getD_set_self (by rw [L.lR]; exact hh)]
        refine ⟨g3, est, ?_, o.ops, ?_⟩
        · rw [ean, pick_append, e, pick_self, ← o.rs]
        · rcases o.pend with ⟨z, _⟩ | ⟨op', z, l, at_⟩
          · rw [z] at ha
            cases ha
          · exact .inl ⟨rfl, by rw [List.length_append, l]; rfl⟩
      · rw [getD_set_ne ej, getD_set_ne ej, getD_set_ne ej, getD_set_ne ej]
        exact g1 j hj
  · rw [if_neg e]
    show LInv n T b (stepS T n S h) A R
    refine ⟨?_, ?_, ?_, L.lA, L.lR, g2, L.opsOk, fun j hj => ?_⟩
    · show (if (cellAt n S h).1 = h then S.asked.set h none else S.asked).length = n
      rw [if_neg e]
      exact L.la
    · show (S.gone.set h _).length = n
      rw [List.length_set]
      exact L.lg
    · show (S.here.set h _).length = n
      rw [List.length_set]
      exact L.lh
    · show HandOk T b (grown n S h) j ((if (cellAt n S h).1 = h then S.asked.set h none else S.asked).getD j none) ((S.gone.set h (S.gone.getD h 0 + 1)).getD j 0) ((S.here.set h (rowOf T n S h).2).getD j 0) (A.getD j []) (R.getD j [])
      rw [if_neg e]
      by_cases ej : h = j
      · subst ej
        rw [getD_set_self (by rw [L.lg]; exact hh), getD_set_self (by rw [L.lh]; exact hh)]
        refine ⟨g3, est, ?_, o.ops, o.pend⟩
        rw [ean, pick_append, ← o.rs, pick_other _ e, List.append_nil]
      · rw [getD_set_ne ej, getD_set_ne ej]
        exact g1 j hj

theorem LInv.ask {n : Nat} {T : Tb} {b : Nat} {S : RS} {A R : List (List Nat)} (L : LInv n T b S A R) {h op : Nat} (hh : h < n) (ho : op < T.length) (ha : S.asked.getD h none = none) :
    LInv n T b (askS S h op) (A.set h (A.getD h [] ++ [op])) R := by
  have o := L.per h hh
  refine ⟨by show (S.asked.set h _).length = n; rw [List.length_set]; exact L.la, L.lg, L.lh, by rw [List.length_set]; exact L.lA, L.lR, L.cells, fun As hA p hp => ?_, fun j hj => ?_⟩
  · rcases mem_set_or hA with q | q
    · subst q
      rcases List.mem_append.mp hp with z | z
      · exact L.opsOk _ (mem_getD [] (by rw [L.lA]; exact hh)) _ z
      · rw [List.mem_singleton.mp z]
        exact ho
    · exact L.opsOk As q p hp
  · show HandOk T b S.cells j ((S.asked.set h (some op)).getD j none) (S.gone.getD j 0) (S.here.getD j 0) ((A.set h (A.getD h [] ++ [op])).getD j []) (R.getD j [])
    by_cases ej : h = j
    · subst ej
      rw [getD_set_self (by rw [L.la]; exact hh), getD_set_self (by rw [L.lA]; exact hh)]
      refine ⟨o.gle, o.st, o.rs, o.ops.trans (List.prefix_append _ _), .inr ⟨op, rfl, ?_, ?_⟩⟩
      all_goals rcases o.pend with ⟨_, l⟩ | ⟨op', z, l, at_⟩
      · rw [List.length_append, l]
        rfl
      · rw [z] at ha
        cases ha
      · rw [← l, List.getElem?_append_right (Nat.le_refl _), Nat.sub_self]
        rfl
      · rw [z] at ha
        cases ha
    · rw [getD_set_ne ej, getD_set_ne ej]
      exact L.per j hj

/-! what the law looks at, behind the deeds -/
theorem LInv.at_cell {n : Nat} {T : Tb} {b : Nat} {S : RS} {A R : List (List Nat)} (L : LInv n T b S A R) {i : Nat} {c : Nat × Nat} (hc : S.cells[i]? = some c) :
    (A.getD c.1 [])[(pick c.1 (S.cells.take i)).length]? = some c.2 ∧
      ((pick c.1 (S.cells.take i)).length < (R.getD c.1 []).length → (R.getD c.1 [])[(pick c.1 (S.cells.take i)).length]? = some (rowAt T c.2 (run T b (S.cells.take i))).1) := by
  have hn := (L.cells c (List.mem_of_getElem? hc)).1
  have o := L.per c.1 hn
  have et : S.cells = S.cells.take i ++ c :: S.cells.drop (i + 1) := by
    have hi := (List.getElem?_eq_some_iff.mp hc).1
    have := List.take_append_drop i S.cells
    rw [List.drop_eq_getElem_cons hi, (List.getElem?_eq_some_iff.mp hc).2] at this
    exact this.symm
  obtain ⟨o1, o2⟩ := c
  refine ⟨?_, fun hlt => ?_⟩
  · obtain ⟨r, hr⟩ := o.ops
    rw [← hr]
    have e2 : pick o1 S.cells = pick o1 (S.cells.take i) ++ o2 :: pick o1 (S.cells.drop (i + 1)) := by
      have e3 : pick o1 S.cells = pick o1 (S.cells.take i ++ (o1, o2) :: S.cells.drop (i + 1)) := congrArg (pick o1) et
      rw [e3, pick_append, pick_cons_self]
    show (pick o1 S.cells ++ r)[(pick o1 (S.cells.take i)).length]? = some o2
    rw [e2, List.append_assoc, List.getElem?_append_right (Nat.le_refl _), Nat.sub_self]
    rfl
  · -- the cell was gone
    have hlt' : (pick o1 (S.cells.take i)).length < (R.getD o1 []).length := hlt
    have ers : R.getD o1 [] = pick o1 (anss T b (S.cells.take (S.gone.getD o1 0))) := o.rs
    have hig : i < S.gone.getD o1 0 := by
      rcases Nat.lt_or_ge i (S.gone.getD o1 0) with q | q
      · exact q
      · exfalso
        rw [ers, pick_anss_length] at hlt'
        have e5 : S.cells.take i = S.cells.take (S.gone.getD o1 0) ++ (S.cells.drop (S.gone.getD o1 0)).take (i - S.gone.getD o1 0) := by
          have := List.take_add (l := S.cells) (i := S.gone.getD o1 0) (j := i - S.gone.getD o1 0)
          rw [show S.gone.getD o1 0 + (i - S.gone.getD o1 0) = i by omega] at this
          exact this
        rw [e5, pick_append, List.length_append] at hlt'
        omega
    have e6 : S.cells.take (S.gone.getD o1 0) = S.cells.take i ++ (o1, o2) :: (S.cells.drop (i + 1)).take (S.gone.getD o1 0 - (i + 1)) := by
      have t1 := List.take_add (l := S.cells) (i := i + 1) (j := S.gone.getD o1 0 - (i + 1))
      rw [show i + 1 + (S.gone.getD o1 0 - (i + 1)) = S.gone.getD o1 0 by omega, take_succ_of hc, List.append_assoc] at t1
      exact t1
    show (R.getD o1 [])[(pick o1 (S.cells.take i)).length]? = some (rowAt T o2 (run T b (S.cells.take i))).1
    rw [ers, e6, anss_append, pick_append]
    have e7 : anss T (run T b (S.cells.take i)) ((o1, o2) :: (S.cells.drop (i + 1)).take (S.gone.getD o1 0 - (i + 1))) = (o1, (rowAt T o2 (run T b (S.cells.take i))).1) :: anss T (rowAt T o2 (run T b (S.cells.take i))).2 ((S.cells.drop (i + 1)).take (S.gone.getD o1 0 - (i + 1))) := rfl
    rw [e7, pick_cons_self, ← pick_anss_length T o1 (S.cells.take i) b, List.getElem?_append_right (Nat.le_refl _), Nat.sub_self]
    rfl
theorem LInv.at_hand {n : Nat} {T : Tb} {b : Nat} {S : RS} {A R : List (List Nat)} (L : LInv n T b S A R) {h : Nat} (hh : h < n) :
    (R.getD h []).length ≤ (pick h S.cells).length ∧ ((S.asked.getD h none = none ∧ (A.getD h []).length = (R.getD h []).length) ∨ ∃ op, S.asked.getD h none = some op ∧ (A.getD h []).length = (R.getD h []).length + 1) := by
  have o := L.per h hh
  refine ⟨?_, ?_⟩
  · rw [o.rs, pick_anss_length]
    have e : pick h S.cells = pick h (S.cells.take (S.gone.getD h 0)) ++ pick h (S.cells.drop (S.gone.getD h 0)) := by rw [← pick_append, List.take_append_drop]
    rw [e, List.length_append]
    exact Nat.le_add_right _ _
  · rcases o.pend with q | ⟨op, z, l, _⟩
    · exact .inl q
    · exact .inr ⟨op, z, l⟩

/-- at first -/
theorem LInv.first {n : Nat} {T : Tb} {b : Nat} : LInv n T b ⟨[], List.replicate n none, List.replicate n 0, List.replicate n b⟩ (List.replicate n []) (List.replicate n []) := by
  refine ⟨by simp, by simp, by simp, by simp, by simp, (fun c hc => nomatch hc), fun As hA op ho => ?_, fun h hh => ?_⟩
  · rw [List.eq_of_mem_replicate hA] at ho
    cases ho
  · have e : ∀ {α : Type} (x d : α), (List.replicate n x).getD h d = x := fun x d => getD_of (by rw [List.getElem?_replicate, if_pos hh])
    show HandOk T b [] h ((List.replicate n none).getD h none) ((List.replicate n 0).getD h 0) ((List.replicate n b).getD h 0) ((List.replicate n []).getD h []) ((List.replicate n []).getD h [])
    rw [e, e, e, e]
    exact ⟨Nat.le_refl _, rfl, rfl, List.prefix_refl _, .inl ⟨rfl, rfl⟩⟩

/-! a good table -/
structure GoodT (T : Tb) (k : Nat) : Prop where
  ops1 : 1 ≤ T.length
  ops4 : T.length ≤ 4
  k1 : 1 ≤ k
  k5 : k ≤ 5
  rows : ∀ r ∈ T, r.length = k ∧ ∀ c ∈ r, c.1 ≤ 9 ∧ c.2 < k
theorem GoodT.row {T : Tb} {k : Nat} (G : GoodT T k) {op s : Nat} (ho : op < T.length) (hs : s < k) :
    ∃ r, T[op]? = some r ∧ r ∈ T ∧ r[s]? = some (rowAt T op s) ∧ (rowAt T op s).1 ≤ 9 ∧ (rowAt T op s).2 < k := by
  have h1 := get_getD [] ho
  have hm := mem_getD [] ho
  obtain ⟨hl, hc⟩ := G.rows _ hm
  have h2 := get_getD (0, 0) (show s < (T.getD op []).length by rw [hl]; exact hs)
  have hm2 := mem_getD (0, 0) (show s < (T.getD op []).length by rw [hl]; exact hs)
  exact ⟨_, h1, hm, h2, (hc _ hm2).1, (hc _ hm2).2⟩
theorem run_lt {T : Tb} {k : Nat} (G : GoodT T k) {n : Nat} : ∀ (cs : List (Nat × Nat)) (s : Nat), s < k → (∀ c ∈ cs, c.1 < n ∧ c.2 < T.length) → run T s cs < k
  | [], _, hs, _ => hs
  | c :: cs, s, hs, h => by
    obtain ⟨r, _, _, _, _, h3⟩ := G.row (h c (List.mem_cons_self ..)).2 hs
    exact run_lt G cs _ h3 fun d hd => h d (List.mem_cons_of_mem _ hd)
/-- the state that the code meets -/
theorem LInv.wf {n : Nat} {T : Tb} {k b : Nat} {S : RS} {A R : List (List Nat)} (L : LInv n T b S A R) (G : GoodT T k) (hb : b < k) : RWf n T k S := by
  refine ⟨L.la, L.lg, L.lh, L.cells, fun h op e => ?_, fun g hg => ?_, fun s hs => ?_⟩
  · have hh : h < n := by rw [← L.la]; exact (List.getElem?_eq_some_iff.mp e).1
    have o := L.per h hh
    rw [getD_of e] at o
    rcases o.pend with ⟨z, _⟩ | ⟨op', z, _, at_⟩
    · cases z
    · cases z
      exact L.opsOk _ (mem_getD [] (by rw [L.lA]; exact hh)) _ (List.mem_of_getElem? at_)
  · obtain ⟨h, hh, e⟩ := List.getElem_of_mem hg
    have o := L.per h (by rw [← L.lg]; exact hh)
    rw [getD_of (List.getElem?_eq_some_iff.mpr ⟨hh, e⟩)] at o
    exact o.gle
  · obtain ⟨h, hh, e⟩ := List.getElem_of_mem hs
    have o := L.per h (by rw [← L.lh]; exact hh)
    rw [getD_of (d := 0) (List.getElem?_eq_some_iff.mpr ⟨hh, e⟩)] at o
    rw [o.st]
    exact run_lt G (n := n) _ _ hb fun c hc => L.cells c (List.mem_of_mem_take hc)
/-! what the code of a step needs -/
theorem winner_ok {n : Nat} {S : RS} {h op : Nat} (la : S.asked.length = n) (hh : h < n) (ha : S.asked[h]? = some (some op)) :
    winner n S h < n ∧ ∃ p, S.asked[winner n S h]? = some (some p) := by
  unfold winner
  by_cases q : ((S.asked.getD (S.cells.length % n) none).isSome && !isPut S (S.cells.length % n)) = true
  · rw [if_pos q]
    rw [Bool.and_eq_true] at q
    have hn : S.cells.length % n < n := Nat.mod_lt _ (by omega)
    obtain ⟨p, hp⟩ := Option.isSome_iff_exists.mp q.1
    exact ⟨hn, p, by rw [get_getD none (by rw [la]; exact hn), hp]⟩
  · rw [if_neg q]
    exact ⟨hh, op, ha⟩
theorem RWf.grown {n : Nat} {T : Tb} {k : Nat} {S : RS} (W : RWf n T k S) {h op : Nat} (hh : h < n) (ha : S.asked[h]? = some (some op)) :
    (∀ c ∈ grown n S h, c.1 < n ∧ c.2 < T.length) ∧ S.gone.getD h 0 < (Wf.grown n S h).length := by
  have hg := W.gle _ (mem_getD 0 (show h < S.gone.length by rw [W.lg]; exact hh))
  unfold Wf.grown
  by_cases eg : S.gone.getD h 0 = S.cells.length
  · rw [if_pos eg]
    obtain ⟨w1, p, hp⟩ := winner_ok W.la hh ha
    refine ⟨fun c hc => ?_, by rw [List.length_append, eg]; exact Nat.lt_succ_self _⟩
    rcases List.mem_append.mp hc with q | q
    · exact W.cells c q
    · have e := List.mem_singleton.mp q
      subst e
      refine ⟨w1, ?_⟩
      rw [getD_of hp]
      exact W.ask _ _ hp
  · rw [if_neg eg]
    exact ⟨W.cells, Nat.lt_of_le_of_ne hg eg⟩
theorem grown_length (n : Nat) (S : RS) (h : Nat) : (grown n S h).length ≤ S.cells.length + 1 := by
  unfold grown
  by_cases eg : S.gone.getD h 0 = S.cells.length
  · rw [if_pos eg, List.length_append]
    exact Nat.le_refl _
  · rw [if_neg eg]
    exact Nat.le_succ _
theorem pick_length_le (h : Nat) (xs : List (Nat × Nat)) : (pick h xs).length ≤ xs.length := by
  unfold pick
  rw [List.length_map]
  exact List.length_filter_le _ _
theorem LInv.lens {n : Nat} {T : Tb} {b : Nat} {S : RS} {A R : List (List Nat)} (L : LInv n T b S A R) {h : Nat} (hh : h < n) : (A.getD h []).length ≤ S.cells.length + 1 ∧ (R.getD h []).length ≤ S.cells.length := by
  obtain ⟨h1, h2⟩ := L.at_hand hh
  have h3 := pick_length_le h S.cells
  rcases h2 with ⟨_, e⟩ | ⟨_, _, e⟩ <;> omega
end Wf

/-! A for over enumerate(a tuple), made of the library's walk of it (WalksT.enumerateD over Draws.tuple); and xs[i] op= e, i a natural number. -/
namespace Wf
open PySem PySem.Spec PyProof.Rows L2
/-- enumerate(v), one argument, as a new object behind iter(v)'s -/
abbrev enObj (j : Addr) : Obj := { cls := .type "enumerate", data := .fields #[.none, .bool false, .ref j, rawInt 0, .none, .none] }
theorem en_new {v : Value} {ob : Obj} {Hv : Heap → Prop} (B : Begins v ob Hv) :
    Meets (Builtin.«enumerate.__new__» ⟨[.type "enumerate", v], []⟩) (fun _ R st => Hv st.heap ∧ R (.ok (.ret (.ref (st.heap.push ob).objs.size))) { st with heap := (st.heap.push ob).push (enObj st.heap.objs.size) }) := by
  refine Meets.of_wp fun P0 w0 A0 R0 s0 pre => ?_
  rcases s0 with ⟨hp, gs, dr, tks, sys⟩
  rcases pre with ⟨hv, fin⟩
  have known := sub_enumerate
  have iters : ∀ {A1 : Around} {E1 Q1 : Value → Shared → Prop}, Q1 (.ref hp.objs.size) ⟨hp.push ob, gs, dr, tks, sys⟩ → wpAny (model P0 w0) A1 (pyIter v) Q1 E1 ⟨hp, gs, dr, tks, sys⟩ := fun z => B.iter P0 w0 _ _ _ _ hv z
  wp_walk using iters
  refine wpAny_stack_any fun around => wpAny_pure ?_
  split
  · rename_i cls _ _ _ _ _
    cases (cls == Value.type "enumerate") <;> (wp_walk using iters; exact ⟨_, rfl, fin⟩)
  · wp_walk using iters
    exact ⟨_, rfl, fin⟩
/-- the walk's state at turn i: the enumerate object at e, the tuple's iterator at j -/
structure EnT (t e j : Addr) (i : Nat) (hp : Heap) : Prop where
  en : ∃ old, IsEnum hp e j (i : Int) old
  ti : hp.IsTupleIter j t i
  ne : e ≠ j
theorem EnT.lt {t e j : Addr} {i : Nat} {hp : Heap} (z : EnT t e j i hp) : ∀ b ∈ [e, j], ∃ ob, hp.get? b = some ob ∧ (∀ v, ob.data ≠ .cell v) ∧ ob.cls ≠ .type "tuple" := by
  obtain ⟨old, z1⟩ := z.en
  obtain ⟨ob, z2, z3, z4⟩ := z.ti
  intro b hb
  simp only [List.mem_cons, List.mem_nil_iff, or_false] at hb
  rcases hb with rfl | rfl
  · exact ⟨_, z1, (fun v n => nomatch n), by show Value.type "enumerate" ≠ Value.type "tuple"; decide⟩
  · refine ⟨ob, z2, (fun v n => by rw [z4] at n; cases n), ?_⟩
    rw [z3]
    decide
theorem EnT.keep {t e j : Addr} {i : Nat} {hp hq : Heap} (z : EnT t e j i hp) (k : ∀ b ∈ [e, j], ∀ ob, hp.get? b = some ob → hq.get? b = some ob) : EnT t e j i hq := by
  obtain ⟨old, z1⟩ := z.en
  exact ⟨⟨old, k e (by simp) _ z1⟩, z.ti.at fun ob q => k j (by simp) ob q, z.ne⟩
/-- no cell of the walk is the tuple itself -/
theorem EnT.off {t e j : Addr} {i : Nat} {hp : Heap} {its : Array Value} (z : EnT t e j i hp) (tu : hp.IsTuple t its) : e ∉ [j, t] ∧ t ≠ j := by
  obtain ⟨ot, t1, t2, _⟩ := tu
  have off : ∀ b ∈ [e, j], b ≠ t := fun b hb q => by
    obtain ⟨ob, b1, _, b3⟩ := z.lt b hb
    subst q
    rw [t1] at b1
    cases b1
    exact b3 t2
  have ne := z.ne
  have h1 := off e (by simp)
  have h2 := off j (by simp)
  exact ⟨by simp [ne, h1], h2.symm⟩
/-- the tuple at t: each item with its number in a new pair -/
def IteT (K : PySem.W.Frag) (t : Addr) : It where
  go := fun i H => ∃ xs, SqT K H t xs ∧ i < xs.length
  yld := fun i H v H' => ∃ p y, v = .ref p ∧ H p = none ∧ H' = upd H p (.tup [.int (i : Nat), y]) ∧ ∀ xs, SqT K H t xs → xs[i]? = some y
  stop := fun i H => ∃ xs, SqT K H t xs ∧ i = xs.length
theorem turn_enumT {P : Program} {w : World} {K : PySem.W.Frag} {elts : List Expr} {kk : Nat} {tpos : Pos} (t e j : Addr) : Turn P w K (.Tuple elts kk tpos) (IteT K t) [e, j] e (EnT t e j) where
  mem := List.mem_cons_self
  obj := fun i hp z b hb => let ⟨ob, b1, b2, _⟩ := z.lt b hb; ⟨ob, b1, b2⟩
  keep := fun i hp hq z k => z.keep k
  item := by
    rintro X rfl rfl rfl calm i pins s σ H E I free z ⟨xs, tx, hi⟩
    obtain ⟨its, rv, tu, _⟩ := I.tuple tx
    obtain ⟨nin, ntj⟩ := z.off tu
    have W := WalksT.enumerateD (Draws.tuple (prog := X.prog) (w := X.w) (A := X.A.in1) (I.ok.hd calm) j t ntj its.toArray) e z.ne nin (by simp)
    have len := rv.length
    refine W.item i s _ _ (by rw [List.size_toArray]; omega) ⟨z.en, z.ti, tu⟩ fun p vals hq tk yl new pair mid kept => ?_
    obtain ⟨tok, y, hy, rfl⟩ := yl
    have napart := W.apart i p hq mid
    refine ⟨_, rfl, W.go elts kk tpos i p { s with heap := hq, toks := tk } _ _ mid fun hr st kept2 => ?_⟩
    obtain ⟨u, hu, ru⟩ := rv.get (List.getElem?_eq_getElem hi)
    have uy : u = y := by
      rw [List.getElem?_toArray, hu] at hy
      exact Option.some.inj hy
    subst uy
    obtain ⟨op, p1, p2, np, p3⟩ := pair
    have fits : ObjOk X.prog X.w (upd H p (.tup [.int (i : Nat), xs[i]])) hr p (.tup [.int (i : Nat), xs[i]]) := by
      refine ⟨by show 2 ≤ sizeLine; decide, [.int i tok, u], .cons ⟨_, rfl⟩ (.cons ru .nil), op, kept2 _ _ napart p1, p2, np, p3⟩
    have J := I.turnedNew (t' := tk) (ch := [e, j]) (fun b ob nb q => kept2 b ob nb (kept b ob nb q)) free new fits
    refine ⟨.ref p, _, J, rfl, ⟨p, xs[i], rfl, I.hok.fresh new, rfl, fun ys ty => ?_⟩, ⟨st.1, st.2.1, z.ne⟩, fun b hb => ?_⟩
    · rw [I.tuple_inj ty tx]
      exact List.getElem?_eq_getElem hi
    · rw [upd_ne fun q => napart (by rw [← q]; exact hb)]
      exact (free b hb).1
  done := by
    rintro X rfl rfl rfl calm i pins s σ H E I free z ⟨xs, tx, rfl⟩
    obtain ⟨its, rv, tu, _⟩ := I.tuple tx
    obtain ⟨nin, ntj⟩ := z.off tu
    have D := Draws.tuple (prog := X.prog) (w := X.w) (A := X.A.in1) (I.ok.hd calm) j t ntj its.toArray
    obtain ⟨old, en⟩ := z.en
    have len : its.toArray.size = xs.length := by rw [List.size_toArray, rv.length]
    refine wpAny_pyNext_enum_endD D en (len ▸ ⟨z.ti, tu⟩) fun hq ext => ⟨rfl, ?_⟩
    obtain ⟨c0, c1, _, c3, c4, c5⟩ := free j (by simp)
    exact I.turned (t' := s.toks) (fun b ob nb q => ext b ob nb q) c0 c1 c3 c4 c5
  self := fun A i s Q E z h => by
    obtain ⟨old, en⟩ := z.en
    exact wpAny_pyIter_enum en h
def iEnumT (K : PySem.W.Frag) (ta : TA) : TI := fun σ H R => ta σ H fun vs H1 => ∃ t xs, vs = [.ref t] ∧ SqT K H1 t xs ∧ R (IteT K t) H1
theorem pi_enumT {X : Cx} {src : Expr} {ta : TA} {p pos tpos : Pos} {elts : List Expr} {kk : Nat} (glob : Gl X "enumerate") (own : X.mg "enumerate" = none) (arg : PA X [src] ta)
    (star : starEach [src] X.env = [(false, eval src X.env)] := by rfl) : PI X (.Tuple elts kk tpos) (.Call (.Name "enumerate" p) [src] [] pos) (iEnumT X.K ta) := by
  constructor
  intro pins s σ H R I want
  refine Call_ (ld_blt I glob own boot_enumerate (callWith_type1 (thn (arg.run pos pins s σ H _ I want) ?_) star rfl))
  rintro us s1 ⟨_, H1, I1, r1, t, xs, rfl, tx, want⟩
  obtain ⟨u, rfl, ru⟩ := Vals.one r1
  cases ru
  obtain ⟨its, rv, tu, _⟩ := I1.tuple tx
  have size1 : ∀ ob : Obj, (s1.heap.push ob).objs.size = s1.heap.objs.size + 1 := fun ob => Heap.size_push ..
  refine callType_new F.called_enumerate (by decide) (F.typeCall_enumerate_1 _) (F.newCall_enumerate_1 _) (fun self => F.args_object_init_2 self _) F.entry_enumerate_new (en_new (begins_tuple t its.toArray)) ⟨tu, ?_⟩
  have at1 := Heap.get?_push_size (s1.heap.push { cls := .type "tuple_iterator", data := .fields #[.ref t, .int 0 0] }) (o := enObj s1.heap.objs.size) rfl
  refine ⟨⟨_, at1, rfl⟩, wpAny_pyIter_enum at1 ?_⟩
  have grown : ∀ b ob, s1.heap.get? b = some ob → ((s1.heap.push { cls := .type "tuple_iterator", data := .fields #[.ref t, .int 0 0] }).push (enObj s1.heap.objs.size)).get? b = some ob :=
    fun b ob q => Heap.get?_push_of_some _ (Heap.get?_push_of_some _ q)
  have above : ∀ b ∈ [(s1.heap.push { cls := .type "tuple_iterator", data := .fields #[.ref t, .int 0 0] }).objs.size, s1.heap.objs.size], s1.heap.objs.size ≤ b := by
    intro b hb
    simp only [List.mem_cons, List.mem_nil_iff, or_false, size1] at hb
    omega
  refine ⟨_, [(s1.heap.push { cls := .type "tuple_iterator", data := .fields #[.ref t, .int 0 0] }).objs.size, s1.heap.objs.size], EnT t _ s1.heap.objs.size, _, H1, rfl, I1.kept (t' := s1.toks) grown, turn_enumT t _ _,
    ⟨⟨.none, at1⟩, ⟨_, Heap.get?_push_of_some _ (Heap.get?_push_size _ rfl), rfl, rfl⟩, ?_⟩, fun b hb => I1.fpOk (above b hb) (I1.hok.fresh (above b hb)), want⟩
  rw [size1]
  exact Nat.succ_ne_self _
theorem walk_enumT {K : PySem.W.Frag} {t : Addr} {xs : List V} : Walk (IteT K t) xs.length (fun H => SqT K H t xs) (YPair (fun i => some (.int (i : Nat))) fun i => xs[i]?) where
  goes := fun i H hi tx => ⟨xs, tx, hi⟩
  stops := fun H tx => ⟨xs, tx, rfl⟩
  yields := fun i H v H' _ tx ⟨p, y, y1, y2, y3, y4⟩ => ⟨p, _, y, y1, y2, y3, rfl, y4 xs tx⟩

/-- xs[i], i a natural number, for xs[i] op= e -/
def rGetN (K : PySem.W.Frag) : V → V → Hp → VK → Prop := fun o k H Q => ∃ (l : Addr) (xs : List V) (i : Nat) (v : V), o = .ref l ∧ k = .int (i : Int) ∧ SqL K H l xs ∧ xs[i]? = some v ∧ Q v H
theorem get_nat {X : Cx} : PGet X (rGetN X.K) := by
  rintro pins s σ H o k ov kv Q I ro rk ⟨l, xs, i, v, rfl, rfl, lx, at_, want⟩
  cases ro
  obtain ⟨tok, rfl⟩ := rk
  obtain ⟨us, rv, pl, most⟩ := I.list lx
  obtain ⟨u, hu, ru⟩ := rv.get at_
  have hi := (List.getElem?_eq_some_iff.mp at_).1
  have line := line63
  exact wpAny_getItem_list pl.isList (by omega) (by omega) (by rw [Int.toNat_natCast, List.getElem?_toArray]; exact hu) ⟨v, H, I, ru, want⟩
end Wf

/-! What stands in the heap: tables, a roll; and rules for tables that are written out. -/
namespace Wf
open PySem L2

abbrev nv (k : Nat) : V := .int (k : Int)
def ov : Option Nat → V
  | none => .non
  | some k => nv k

theorem iteP {c A B : Prop} [Decidable c] (hc : c) (h : A) : if c then A else B := by
  rw [if_pos hc]
  exact h
theorem iteN {c A B : Prop} [Decidable c] (hc : ¬ c) (h : B) : if c then A else B := by
  rw [if_neg hc]
  exact h
/-- a decided test, both ways -/
theorem ited {c A B : Prop} [Decidable c] (h1 : c → A) (h2 : ¬ c → B) : if decide c = true then A else B := by
  by_cases h : c
  · rw [decide_eq_true h]
    exact iteT (h1 h)
  · rw [decide_eq_false h]
    exact iteF (h2 h)
theorem itedN {c A B : Prop} [Decidable c] (h1 : ¬ c → A) (h2 : c → B) : if (!decide c) = true then A else B := by
  by_cases h : c
  · rw [decide_eq_true h]
    exact iteF (h2 h)
  · rw [decide_eq_false h]
    exact iteT (h1 h)
theorem itedT {c A B : Prop} [Decidable c] (hc : c) (h : A) : if decide c = true then A else B := ited (fun _ => h) fun n => (n hc).elim
theorem itedF {c A B : Prop} [Decidable c] (hc : ¬ c) (h : B) : if decide c = true then A else B := ited (fun n => (hc n).elim) fun _ => h

/-! ### heaps -/
/-- all that was tracked stands as it stood, but at M -/
def But (M : List Addr) (H H' : Hp) : Prop := ∀ b o, H b = some o → b ∉ M → H' b = some o
theorem But.refl (M : List Addr) (H : Hp) : But M H H := fun _ _ e _ => e
theorem But.trans {M : List Addr} {H H1 H2 : Hp} (a : But M H H1) (b : But M H1 H2) : But M H H2 := fun c o e n => b c o (a c o e n) n
theorem But.mono {M N : List Addr} {H H' : Hp} (a : But M H H') (s : ∀ b ∈ M, b ∈ N) : But N H H' := fun c o e n => a c o e fun h => n (s c h)
theorem But.of {M : List Addr} {H H' : Hp} (a : Same H H') : But M H H' := fun c o e _ => a c o e
theorem same_new {H : Hp} {p : Addr} {o : HO} (hp : H p = none) : Same H (upd H p o) := fun b u e => by
  rw [upd_ne (ne_of_none e hp)]
  exact e
theorem But.new {M : List Addr} {H : Hp} {p : Addr} {o : HO} (hp : H p = none) : But M H (upd H p o) := .of (same_new hp)
theorem But.upd {M : List Addr} {H : Hp} {p : Addr} {o : HO} (hp : p ∈ M) : But M H (upd H p o) := fun b u e n => by
  rw [upd_ne (fun z => n (by rw [z]; exact hp))]
  exact e
/-- the lists that may change -/
def Mts (M : List Addr) (H : Hp) : Prop := ∀ b ∈ M, ∃ xs, H b = some (.lst xs)

theorem prd_get {α β : Type} {F : α → β → Prop} : ∀ {xs : List α} {ys : List β} {i : Nat} {y : β}, Paired F xs ys → ys[i]? = some y → ∃ x, xs[i]? = some x ∧ F x y
  | _, _, _, _, .nil, e => by simp at e
  | _, _, 0, _, .cons r _, e => by
    simp at e
    subst e
    exact ⟨_, rfl, r⟩
  | _, _, i + 1, y, .cons _ t, e => by
    obtain ⟨x, h1, h2⟩ := prd_get (i := i) (y := y) t (by simpa using e)
    exact ⟨x, by simpa using h1, h2⟩
theorem prd_get1 {α β : Type} {F : α → β → Prop} : ∀ {xs : List α} {ys : List β} {i : Nat} {x : α}, Paired F xs ys → xs[i]? = some x → ∃ y, ys[i]? = some y ∧ F x y
  | _, _, _, _, .nil, e => by simp at e
  | _, _, 0, _, .cons r _, e => by
    simp at e
    subst e
    exact ⟨_, rfl, r⟩
  | _, _, i + 1, x, .cons _ t, e => by
    obtain ⟨y, h1, h2⟩ := prd_get1 (i := i) (x := x) t (by simpa using e)
    exact ⟨y, by simpa using h1, h2⟩
theorem prd_snoc {α β : Type} {F : α → β → Prop} {a : α} {b : β} : ∀ {l₁ : List α} {l₂ : List β}, Paired F l₁ l₂ → F a b → Paired F (l₁ ++ [a]) (l₂ ++ [b])
  | _, _, .nil, h => .cons h .nil
  | _, _, .cons r t, h => .cons r (prd_snoc t h)
theorem prd_append {α β : Type} {F : α → β → Prop} : ∀ {l₁ m₁ : List α} {l₂ m₂ : List β}, Paired F l₁ l₂ → Paired F m₁ m₂ → Paired F (l₁ ++ m₁) (l₂ ++ m₂)
  | _, _, _, _, .nil, h => h
  | _, _, _, _, .cons r t, h => .cons r (prd_append t h)
theorem prd_drop {α β : Type} {F : α → β → Prop} : ∀ {xs : List α} {ys : List β} (n : Nat), Paired F xs ys → Paired F (xs.drop n) (ys.drop n)
  | _, _, 0, r => r
  | _, _, _ + 1, .nil => .nil
  | _, _, n + 1, .cons _ t => prd_drop n t
theorem prd_len {α β : Type} {F : α → β → Prop} : ∀ {xs : List α} {ys : List β}, Paired F xs ys → xs.length = ys.length
  | _, _, .nil => rfl
  | _, _, .cons _ t => congrArg Nat.succ (prd_len t)
theorem prd_map {α β : Type} {F G : α → β → Prop} (f : ∀ a b, F a b → G a b) : ∀ {xs : List α} {ys : List β}, Paired F xs ys → Paired G xs ys
  | _, _, .nil => .nil
  | _, _, .cons r t => .cons (f _ _ r) (prd_map f t)

section
variable {K : PySem.W.Frag} {H H' : Hp} {M : List Addr}
theorem SqT.but {a : Addr} {xs : List V} (b : But M H H') (m : Mts M H) (h : SqT K H a xs) : SqT K H' a xs := by
  rcases h with (h | ⟨o, h⟩) | h
  · refine .inl (.inl (b _ _ h fun z => ?_))
    obtain ⟨ys, e⟩ := m _ z
    rw [h] at e
    cases e
  · refine .inl (.inr ⟨o, b _ _ h fun z => ?_⟩)
    obtain ⟨ys, e⟩ := m _ z
    rw [h] at e
    cases e
  · exact .inr h
theorem SqT.same {a : Addr} {xs : List V} (b : Same H H') (h : SqT K H a xs) : SqT K H' a xs := SqT.but (M := []) (But.of b) (fun _ z => nomatch z) h
/-- a pair of numbers -/
def RowAt (K : PySem.W.Frag) (H : Hp) (q : Addr) (c : Nat × Nat) : Prop := SqT K H q [nv c.1, nv c.2]
def OpAt (K : PySem.W.Frag) (H : Hp) (o : Addr) (r : List (Nat × Nat)) : Prop := ∃ qs : List Addr, SqT K H o (qs.map V.ref) ∧ Paired (RowAt K H) qs r
def TabAt (K : PySem.W.Frag) (H : Hp) (t : Addr) (T : Tb) : Prop := ∃ os : List Addr, SqT K H t (os.map V.ref) ∧ Paired (OpAt K H) os T
theorem OpAt.imp {o : Addr} {r : List (Nat × Nat)} (f : ∀ a xs, SqT K H a xs → SqT K H' a xs) (h : OpAt K H o r) : OpAt K H' o r := by
  obtain ⟨qs, h1, h2⟩ := h
  exact ⟨qs, f _ _ h1, prd_map (fun a c q => f _ _ q) h2⟩
theorem TabAt.imp {t : Addr} {T : Tb} (f : ∀ a xs, SqT K H a xs → SqT K H' a xs) (h : TabAt K H t T) : TabAt K H' t T := by
  obtain ⟨os, h1, h2⟩ := h
  exact ⟨os, f _ _ h1, prd_map (fun a r q => q.imp f) h2⟩
theorem TabAt.but {t : Addr} {T : Tb} (b : But M H H') (m : Mts M H) (h : TabAt K H t T) : TabAt K H' t T := h.imp fun _ _ => SqT.but b m
theorem TabAt.same {t : Addr} {T : Tb} (b : Same H H') (h : TabAt K H t T) : TabAt K H' t T := h.imp fun _ _ => SqT.same b
theorem OpAt.same {t : Addr} {T : List (Nat × Nat)} (b : Same H H') (h : OpAt K H t T) : OpAt K H' t T := h.imp fun _ _ => SqT.same b
theorem at_map {as : List Addr} {i : Nat} {a : Addr} (h : as[i]? = some a) : atI (as.map V.ref) (i : Int) = some (V.ref a) := atI_nat (by rw [List.getElem?_map, h]; rfl)
theorem TabAt.op {t : Addr} {T : Tb} (A : TabAt K H t T) {i : Nat} {r : List (Nat × Nat)} (h : T[i]? = some r) :
    ∃ xs o, SqT K H t xs ∧ xs.length = T.length ∧ atI xs (i : Int) = some (V.ref o) ∧ OpAt K H o r := by
  obtain ⟨os, h1, h2⟩ := A
  obtain ⟨o, h3, h4⟩ := prd_get h2 h
  exact ⟨_, o, h1, by rw [List.length_map]; exact prd_len h2, at_map h3, h4⟩
theorem OpAt.row {o : Addr} {r : List (Nat × Nat)} (A : OpAt K H o r) {j : Nat} {c : Nat × Nat} (h : r[j]? = some c) :
    ∃ xs q, SqT K H o xs ∧ atI xs (j : Int) = some (V.ref q) ∧ SqT K H q [nv c.1, nv c.2] := by
  obtain ⟨qs, h1, h2⟩ := A
  obtain ⟨q, h3, h4⟩ := prd_get h2 h
  exact ⟨_, q, h1, at_map h3, h4⟩
end

/-! ### readings made weaker -/
section
variable {X : Cx}
theorem pe_weak {e : Expr} {t t' : TE} (h : PE X e t) (w : ∀ σ H Q, t' σ H Q → t σ H Q) : PE X e t' := ⟨fun pins s σ H Q I q => h.run pins s σ H Q I (w σ H Q q)⟩
theorem pa_weak {es : List Expr} {t t' : TA} (h : PA X es t) (w : ∀ σ H Q, t' σ H Q → t σ H Q) : PA X es t' := ⟨fun pos pins s σ H Q I q => h.run pos pins s σ H Q I (w σ H Q q)⟩
end

/-! ### tables that are written out -/
def tRowC (c : Nat × Nat) : TE := fun _ H Q => ∀ p H', Same H H' → H' p = some (.tup [nv c.1, nv c.2]) → Q (.ref p) H'
def tRowsC (r : List (Nat × Nat)) : TA := fun _ H Q => ∀ ps H', Same H H' → Paired (fun (p : Addr) (c : Nat × Nat) => H' p = some (.tup [nv c.1, nv c.2])) ps r → Q (ps.map V.ref) H'
def tOpC (K : PySem.W.Frag) (r : List (Nat × Nat)) : TE := fun _ H Q => ∀ p H', Same H H' → OpAt K H' p r → Q (.ref p) H'
def tOpsC (K : PySem.W.Frag) (T : Tb) : TA := fun _ H Q => ∀ ps H', Same H H' → Paired (OpAt K H') ps T → Q (ps.map V.ref) H'
def tTabC (K : PySem.W.Frag) (T : Tb) : TE := fun _ H Q => ∀ p H', Same H H' → TabAt K H' p T → Q (.ref p) H'
def tTabsC (K : PySem.W.Frag) (Ts : List Tb) : TA := fun _ H Q => ∀ ps H', Same H H' → Paired (TabAt K H') ps Ts → Q (ps.map V.ref) H'
def LTab (K : PySem.W.Frag) (H : Hp) (l : Addr) (Ts : List Tb) : Prop := ∃ ts : List Addr, H l = some (.lst (ts.map V.ref)) ∧ Paired (TabAt K H) ts Ts
def tLTab (K : PySem.W.Frag) (Ts : List Tb) : TE := fun _ H Q => ∀ l H', Same H H' → LTab K H' l Ts → Q (.ref l) H'
section
variable {X : Cx}
theorem pe_rowC (c : Nat × Nat) {i j : Int} {j1 j2 k : Nat} {p1 p2 pos : Pos} (hi : i = (c.1 : Int)) (hj : j = (c.2 : Int)) :
    PE X (.Tuple [.Constant (.int i) j1 p1, .Constant (.int j) j2 p2] k pos) (tRowC c) := by
  subst hi hj
  exact pe_weak (pe_tup (pa_cons pe_int (pa_cons pe_int pa_nil))) fun σ H Q h => ⟨(by show 2 ≤ sizeLine; decide), fun p hp => h p _ (same_new hp) upd_same⟩
theorem pa_rowsC_nil : PA X [] (tRowsC []) := pa_weak pa_nil fun σ H Q h => h [] H (Same.refl H) .nil
theorem pa_rowsC {e : Expr} {es : List Expr} {c : Nat × Nat} {r : List (Nat × Nat)} (h1 : PE X e (tRowC c)) (h2 : PA X es (tRowsC r)) (hs : starEach (e :: es) X.env = (false, eval e X.env) :: starEach es X.env := by rfl) :
    PA X (e :: es) (tRowsC (c :: r)) :=
  pa_weak (pa_cons h1 h2 hs) fun σ H Q h p H1 s1 g1 ps H2 s2 g2 => h (p :: ps) H2 (s1.trans s2) (.cons (s2 _ _ g1) g2)
theorem pe_opC {es : List Expr} {k : Nat} {pos : Pos} {r : List (Nat × Nat)} (h : PA X es (tRowsC r)) (hl : r.length ≤ 1000) : PE X (.Tuple es k pos) (tOpC X.K r) :=
  pe_weak (pe_tup h) fun σ H Q q ps H1 s1 g1 => ⟨by rw [List.length_map, prd_len g1]; exact Nat.le_of_lt (small1000 hl), fun p hp =>
    q p _ (s1.trans (same_new hp)) ⟨ps, SqT.of upd_same, prd_map (fun a c e => SqT.of (same_new hp _ _ e)) g1⟩⟩
theorem pa_opsC_nil : PA X [] (tOpsC X.K []) := pa_weak pa_nil fun σ H Q h => h [] H (Same.refl H) .nil
theorem pa_opsC {e : Expr} {es : List Expr} {r : List (Nat × Nat)} {T : Tb} (h1 : PE X e (tOpC X.K r)) (h2 : PA X es (tOpsC X.K T)) (hs : starEach (e :: es) X.env = (false, eval e X.env) :: starEach es X.env := by rfl) :
    PA X (e :: es) (tOpsC X.K (r :: T)) :=
  pa_weak (pa_cons h1 h2 hs) fun σ H Q h p H1 s1 g1 ps H2 s2 g2 => h (p :: ps) H2 (s1.trans s2) (.cons (g1.same s2) g2)
theorem pe_tabC {es : List Expr} {k : Nat} {pos : Pos} {T : Tb} (h : PA X es (tOpsC X.K T)) (hl : T.length ≤ 1000) : PE X (.Tuple es k pos) (tTabC X.K T) :=
  pe_weak (pe_tup h) fun σ H Q q ps H1 s1 g1 => ⟨by rw [List.length_map, prd_len g1]; exact Nat.le_of_lt (small1000 hl), fun p hp =>
    q p _ (s1.trans (same_new hp)) ⟨ps, SqT.of upd_same, prd_map (fun a c e => e.same (same_new hp)) g1⟩⟩
theorem pa_tabsC_nil : PA X [] (tTabsC X.K []) := pa_weak pa_nil fun σ H Q h => h [] H (Same.refl H) .nil
theorem pa_tabsC {e : Expr} {es : List Expr} {T : Tb} {Ts : List Tb} (h1 : PE X e (tTabC X.K T)) (h2 : PA X es (tTabsC X.K Ts)) (hs : starEach (e :: es) X.env = (false, eval e X.env) :: starEach es X.env := by rfl) :
    PA X (e :: es) (tTabsC X.K (T :: Ts)) :=
  pa_weak (pa_cons h1 h2 hs) fun σ H Q h p H1 s1 g1 ps H2 s2 g2 => h (p :: ps) H2 (s1.trans s2) (.cons (g1.same s2) g2)
theorem pe_lTab {es : List Expr} {pos : Pos} {Ts : List Tb} (h : PA X es (tTabsC X.K Ts)) (hl : Ts.length ≤ 1000) : PE X (.List es pos) (tLTab X.K Ts) :=
  pe_weak (pe_lst h) fun σ H Q q ps H1 s1 g1 => ⟨by rw [List.length_map, prd_len g1]; exact Nat.le_of_lt (small1000 hl), fun p hp =>
    q p _ (s1.trans (same_new hp)) ⟨ps, upd_same, prd_map (fun a c e => e.same (same_new hp)) g1⟩⟩
theorem pe_lTabCat {a b : Expr} {pos : Pos} {Ts Us : List Tb} {ta : TE} (ha : PE X a ta) (hta : ∀ σ H Q, tLTab X.K Ts σ H Q → ta σ H Q) (hb : PE X b (tLTab X.K Us)) (hl : Ts.length + Us.length ≤ 1000) : PE X (.BinOp a .Add b pos) (tLTab X.K (Ts ++ Us)) :=
  pe_weak (pe_op op_cat ha hb) fun σ H Q q => hta σ H _ fun l H1 s1 g1 m H2 s2 g2 => by
    obtain ⟨ts, e1, g1⟩ := g1
    obtain ⟨us, e2, g2⟩ := g2
    refine ⟨l, m, _, _, rfl, rfl, s2 _ _ e1, e2, by rw [List.length_map, List.length_map, prd_len g1, prd_len g2]; exact Nat.le_of_lt (small1000 hl), fun p hp => ?_⟩
    exact q p _ ((s1.trans s2).trans (same_new hp)) ⟨ts ++ us, by rw [List.map_append]; exact upd_same, prd_append (prd_map (fun a c e => e.same (s2.trans (same_new hp))) g1) (prd_map (fun a c e => e.same (same_new hp)) g2)⟩
end

/-! ### a roll -/
structure RL where
  p : Addr
  dx : Addr
  lc : Addr
  la : Addr
  lg : Addr
  lh : Addr
  t : Addr
def rf (L : RL) (n : Nat) : List (Str × V) :=
  putF "here" (.ref L.lh) (putF "gone" (.ref L.lg) (putF "asked" (.ref L.la) (putF "cells" (.ref L.lc) (putF "many" (nv n) (putF "table" (.ref L.t) [])))))
section
variable (L : RL) (n : Nat)
theorem rf_here : (rf L n).lookup ("here" : Str) = some (.ref L.lh) := by
  unfold rf
  rw [lookup_putF, if_pos rfl]
theorem rf_gone : (rf L n).lookup ("gone" : Str) = some (.ref L.lg) := by
  unfold rf
  rw [lookup_putF, if_neg (by decide +kernel), lookup_putF, if_pos rfl]
theorem rf_asked : (rf L n).lookup ("asked" : Str) = some (.ref L.la) := by
  unfold rf
  rw [lookup_putF, if_neg (by decide +kernel), lookup_putF, if_neg (by decide +kernel), lookup_putF, if_pos rfl]
theorem rf_cells : (rf L n).lookup ("cells" : Str) = some (.ref L.lc) := by
  unfold rf
  rw [lookup_putF, if_neg (by decide +kernel), lookup_putF, if_neg (by decide +kernel), lookup_putF, if_neg (by decide +kernel), lookup_putF, if_pos rfl]
theorem rf_many : (rf L n).lookup ("many" : Str) = some (nv n) := by
  unfold rf
  rw [lookup_putF, if_neg (by decide +kernel), lookup_putF, if_neg (by decide +kernel), lookup_putF, if_neg (by decide +kernel), lookup_putF, if_neg (by decide +kernel), lookup_putF, if_pos rfl]
theorem rf_table : (rf L n).lookup ("table" : Str) = some (.ref L.t) := by
  unfold rf
  rw [lookup_putF, if_neg (by decide +kernel), lookup_putF, if_neg (by decide +kernel), lookup_putF, if_neg (by decide +kernel), lookup_putF, if_neg (by decide +kernel), lookup_putF, if_neg (by decide +kernel), lookup_putF, if_pos rfl]
/-- a name that is none of its attributes -/
theorem rf_no {m : Str} (h : (["here", "gone", "asked", "cells", "many", "table"] : List Str).contains m = false) : (rf L n).lookup m = none := by
  simp only [List.contains_cons, List.contains_nil, Bool.or_false, Bool.or_eq_false_iff, beq_eq_false_iff_ne, ne_eq] at h
  obtain ⟨h1, h2, h3, h4, h5, h6⟩ := h
  unfold rf
  rw [lookup_putF, if_neg h1, lookup_putF, if_neg h2, lookup_putF, if_neg h3, lookup_putF, if_neg h4, lookup_putF, if_neg h5, lookup_putF, if_neg h6]
  rfl
end
abbrev RL.ms (L : RL) : List Addr := [L.lc, L.la, L.lg, L.lh]
/-- a roll stands in the heap -/
structure RollAt (K : PySem.W.Frag) (C : Addr) (H : Hp) (L : RL) (n : Nat) (T : Tb) (S : RS) : Prop where
  ob : H L.p = some (.ins C L.dx (rf L n))
  tab : TabAt K H L.t T
  cells : ∃ cs : List Addr, H L.lc = some (.lst (cs.map V.ref)) ∧ Paired (RowAt K H) cs S.cells
  asked : H L.la = some (.lst (S.asked.map ov))
  gone : H L.lg = some (.lst (S.gone.map nv))
  here : H L.lh = some (.lst (S.here.map nv))
  nd : L.ms.Nodup
theorem RollAt.mts {K : PySem.W.Frag} {C : Addr} {H : Hp} {L : RL} {n : Nat} {T : Tb} {S : RS} (R : RollAt K C H L n T S) : Mts L.ms H := by
  intro b hb
  simp only [List.mem_cons, List.mem_nil_iff, or_false] at hb
  obtain ⟨cs, h1, _⟩ := R.cells
  rcases hb with rfl | rfl | rfl | rfl
  · exact ⟨_, h1⟩
  · exact ⟨_, R.asked⟩
  · exact ⟨_, R.gone⟩
  · exact ⟨_, R.here⟩
theorem RollAt.pn {K : PySem.W.Frag} {C : Addr} {H : Hp} {L : RL} {n : Nat} {T : Tb} {S : RS} (R : RollAt K C H L n T S) : L.p ∉ L.ms := fun h => by
  obtain ⟨xs, e⟩ := R.mts _ h
  rw [R.ob] at e
  cases e
/-- what leaves the roll's lists leaves the roll -/
theorem RollAt.but {K : PySem.W.Frag} {C : Addr} {H H' : Hp} {L : RL} {n : Nat} {T : Tb} {S : RS} {M : List Addr} (R : RollAt K C H L n T S) (b : But M H H') (m : Mts M H) (d : ∀ x ∈ L.ms, x ∉ M) : RollAt K C H' L n T S := by
  obtain ⟨cs, h1, h2⟩ := R.cells
  refine ⟨b _ _ R.ob fun z => ?_, R.tab.but b m, ⟨cs, b _ _ h1 (d _ (by simp)), prd_map (fun a c q => SqT.but b m q) h2⟩, b _ _ R.asked (d _ (by simp)), b _ _ R.gone (d _ (by simp)), b _ _ R.here (d _ (by simp)), R.nd⟩
  obtain ⟨xs, e⟩ := m _ z
  rw [R.ob] at e
  cases e
theorem RollAt.same {K : PySem.W.Frag} {C : Addr} {H H' : Hp} {L : RL} {n : Nat} {T : Tb} {S : RS} (R : RollAt K C H L n T S) (b : Same H H') : RollAt K C H' L n T S :=
  R.but (M := []) (But.of b) (fun _ z => nomatch z) fun _ _ z => nomatch z

/-- one of the module's defs, ready for a call -/
structure Cal (P : Program) (w : World) (K : PySem.W.Frag) (mg : Str → Option Value) (base : Heap) (k : Nat) (x : Str) (f : Addr) (fd : FuncData) (ps : List Str) (sp : Sp) : Prop where
  ok : FnOk P w K mg base CX0 k f fd ps sp
  mgf : mg x = some (.ref f)
  kp : PySem.W.keepIn K (.ref f) = true
  b : Binds K fd ps []
/-- a method, found in the class Roll -/
structure Mth (P : Program) (w : World) (K : PySem.W.Frag) (mg : Str → Option Value) (base : Heap) (C : Addr) (k : Nat) (x : Str) (f : Addr) (fd : FuncData) (ps : List Str) (sp : Sp) : Prop where
  ok : FnOk P w K mg base CX0 k f fd ps sp
  me : Meth K C x f
  b : Binds K fd ps []
/-- names of the module that are the built-ins' -/
structure Blt (mg : Str → Option Value) : Prop where
  isinstance : mg "isinstance" = none
  int : mg "int" = none
  bool : mg "bool" = none
  str : mg "str" = none
  list : mg "list" = none
  tuple : mg "tuple" = none
  len : mg "len" = none
  all : mg "all" = none
  any : mg "any" = none
  enumerate : mg "enumerate" = none
  range : mg "range" = none
/-- the class Roll -/
structure RTxt (K : PySem.W.Frag) (C : Addr) : Prop where
  cl : Cls K C
  nTable : NoAttr K C "table"
  nMany : NoAttr K C "many"
  nCells : NoAttr K C "cells"
  nAsked : NoAttr K C "asked"
  nGone : NoAttr K C "gone"
  nHere : NoAttr K C "here"
end Wf

/-! The defs of tables.py and teams.py that are reached. -/
namespace Wf
open PySem L2
def top (i : Nat) : Stmt := PySem.Challenge.pw_whofirst_k52_whole_rolls_answer_as_one_t.main.body.getD i (.Pass ⟨0, 0, 0, 0⟩)
abbrev sWhole : Stmt := top 14
abbrev sOper : Stmt := top 15
abbrev sLookT : Stmt := top 16
abbrev sLookS : Stmt := top 17
abbrev sLookO : Stmt := top 18
abbrev sLookM : Stmt := top 21
structure Cst (mg : Str → Option Value) : Prop where
  stands : ∃ t, mg "MOST_STANDS" = some (Value.int 5 t)
  opers : ∃ t, mg "MOST_OPERATIONS" = some (Value.int 4 t)
  hands : ∃ t, mg "MOST_HANDS" = some (Value.int 4 t)
def spWhole : Sp := fun vs H Q _ => ∃ (x lo hi : Int), vs = [.int x, .int lo, .int hi] ∧ Q (.bl (decide (lo ≤ x) && decide (x ≤ hi))) H
def spOper (K : PySem.W.Frag) : Sp := fun vs H Q _ => ∃ (o : Addr) (r : List (Nat × Nat)) (k : Nat), vs = [.ref o, nv k] ∧ OpAt K H o r ∧ r.length = k ∧ 1 ≤ k ∧ k ≤ 5 ∧ (∀ c ∈ r, c.1 ≤ 9 ∧ c.2 < k) ∧ ∀ H', Same H H' → Q (.bl true) H'
def spLookT (K : PySem.W.Frag) : Sp := fun vs H Q _ => ∃ (t : Addr) (T : Tb) (k : Nat), vs = [.ref t] ∧ TabAt K H t T ∧ GoodT T k ∧ ∀ H', Same H H' → Q .non H'
def spLookS (K : PySem.W.Frag) : Sp := fun vs H Q _ => ∃ (t : Addr) (T : Tb) (k s : Nat), vs = [.ref t, nv s] ∧ TabAt K H t T ∧ GoodT T k ∧ s < k ∧ ∀ H', Same H H' → Q .non H'
def spLookO (K : PySem.W.Frag) : Sp := fun vs H Q _ => ∃ (t : Addr) (T : Tb) (op : Nat), vs = [.ref t, nv op] ∧ TabAt K H t T ∧ op < T.length ∧ Q .non H
def spLookM : Sp := fun vs H Q _ => ∃ (n : Nat), vs = [nv n] ∧ 2 ≤ n ∧ n ≤ 4 ∧ Q .non H
section
variable {P : Program} {w : World} {K : PySem.W.Frag} {mg : Str → Option Value} {base : Heap}
theorem scWhole : FnScope ["thing", "low", "high"] ["thing", "low", "high"] (defScope sWhole) := ⟨rfl, rfl, rfl, by decide +kernel, rfl, by decide +kernel, by decide +kernel⟩
theorem ok_whole {f : Addr} {fd : FuncData} (F : Fun K "is_whole" "is_whole" sWhole f fd) (B : Blt mg) : FnOk P w K mg base CX0 1 f fd ["thing", "low", "high"] spWhole := by
  refine F.ok scWhole (fun vs H Q E h => ?_) (fun cdv A outer s H vs Q E hr h => ?_)
  · obtain ⟨x, lo, hi, rfl, _⟩ := h
    rfl
  · obtain ⟨x, lo, hi, rfl, k⟩ := h
    refine ⟨_, pss_one (ps_ret (pe_and (pe_callB call_isi (by rfl) B.isinstance (by decide +kernel) (pa_cons (pv 0) (pa_cons (pe_bltn (v := .ty "int") (u := .type "int") (by rfl) B.int (by decide +kernel) rfl) pa_nil)))
      (pe_and (pe_not (pe_callB call_isi (by rfl) B.isinstance (by decide +kernel) (pa_cons (pv 0) (pa_cons (pe_bltn (v := .ty "bool") (u := .type "bool") (by rfl) B.bool (by decide +kernel) rfl) pa_nil))))
        (pe_one (pe_chain op_le op_le (pv 1) (pv 0) (pv 2)))))), ?_⟩
    refine ⟨_, rfl, _, _, _, _, true, rfl, .ty "int", .base (.int _), kit_ty (by decide +kernel), _, rfl, iteT ?_⟩
    refine ⟨_, rfl, _, _, _, _, false, rfl, .ty "bool", .base (.int _), kit_ty (by decide +kernel), _, rfl, _, rfl, iteT ?_⟩
    refine ⟨_, rfl, _, rfl, _, _, rfl, rfl, _, rfl, ited (fun h1 => ?_) fun h1 => ?_⟩
    · rw [decide_eq_true h1, Bool.true_and] at k
      exact ⟨_, rfl, _, _, rfl, rfl, k⟩
    · rw [decide_eq_false h1, Bool.false_and] at k
      exact k
theorem scOper : FnScope ["rows", "many", "answer", "later"] ["rows", "many"] (defScope sOper) := ⟨rfl, rfl, rfl, by decide +kernel, rfl, by decide +kernel, by decide +kernel⟩
theorem ok_oper {f f1 : Addr} {fd fd1 : FuncData} (F : Fun K "is_operation" "is_operation" sOper f fd) (B : Blt mg) (Z : Cst mg) (G : Cal P w K mg base 1 "is_whole" f1 fd1 ["thing", "low", "high"] spWhole) :
    FnOk P w K mg base CX0 2 f fd ["rows", "many"] (spOper K) := by
  refine F.ok scOper (fun vs H Q E h => ?_) (fun cdv A outer s H vs Q E hr h => ?_)
  · obtain ⟨o, r, k, rfl, _⟩ := h
    rfl
  · obtain ⟨o, r, k, rfl, hO, hl, k1, k5, hc, q⟩ := h
    obtain ⟨t5, e5⟩ := Z.stands
    refine ⟨_, pss_cons (ps_if (PW.pt (pw_or (pt_not (pt_chain op_le op_le pe_int (pv 1) (pe_glob (v := .int 5) (by rfl) e5 ⟨_, rfl⟩))) (pw_or1 (pt_cmpR op_ne (pe_callB call_len_seq (by rfl) B.len PySem.boot_len (pa_cons (pv 0) pa_nil)) (pv 1) (nomark _)))))
        pss_never pss_nil)
      (pss_one (ps_ret (pe_callB (cr_all rfl) (by rfl) B.all (by decide +kernel) (pa_cons (pe_lc (own := [("answer", 2), ("later", 3)]) (g := gTup K 2 (gCons (gName 2) (gCons (gName 3) gNil))) (tt := tYes) rfl scOper.nd (pi_tup (pv 0))
        (blkOk_by (own := [("answer", 2), ("later", 3)]) (N := ["rows", "many", "answer", "later"]) (sc := defScope sOper) (by decide +kernel))
        (fun _ _ _ _ _ => pg_tup rfl (pgs_cons (pg_name (i := 2) scOper.nd rfl (.inl rfl)) (pgs_cons (pg_name (i := 3) scOper.nd rfl (.inl rfl)) pgs_nil))) (fun _ _ _ _ _ => pts_nil)
        (fun _ _ _ _ _ => pe_and (pe_call G.ok hr rfl G.mgf G.kp G.b .nil pass0 (pa_cons (pv 2) (pa_cons pe_int (pa_cons pe_int pa_nil))))
          (pe_one (pe_call G.ok hr rfl G.mgf G.kp G.b .nil pass0 (pa_cons (pv 3) (pa_cons pe_int (pa_cons (pe_op op_sub (pv 1) pe_int) pa_nil))))))) pa_nil)))), ?_⟩
    obtain ⟨qs, hS, hP⟩ := id hO
    have hq := prd_len hP
    refine ⟨_, rfl, _, _, rfl, rfl, _, rfl, itedT (show (1 : Int) ≤ (k : Int) by omega) ?_⟩
    refine ⟨_, _, rfl, rfl, _, rfl, iteNS (show (k : Int) ≤ 5 by omega) ?_⟩
    refine ⟨_, rfl, o, _, rfl, .inr hS, _, rfl, rfl, _, rfl, ?_⟩
    have e1 : V.int ((qs.map V.ref).length : Nat) = V.int (k : Int) := by rw [List.length_map, hq, hl]
    refine iteNS e1 ?_
    refine ⟨_, rfl, o, rfl, ⟨_, hS⟩, fun D hD => ?_⟩
    refine lc_tup (K := K) (a := o) (xs := qs.map V.ref) (fun i H' => Same H H' ∧ H' D = some (.lst (List.replicate i (V.bl true)))) ⟨same_new hD, upd_same⟩ (fun i H' _ g => SqT.same g.1 hS) ?_ ?_
    · rintro i x H' hx ⟨s1, h1⟩
      obtain ⟨a, ha, rfl⟩ : ∃ a, qs[i]? = some a ∧ x = V.ref a := by
        rw [List.getElem?_map] at hx
        cases e : qs[i]? with
        | none =>
          rw [e] at hx
          cases hx
        | some a =>
          rw [e] at hx
          exact ⟨a, rfl, (Option.some.inj hx).symm⟩
      obtain ⟨c, hcc, hR⟩ := prd_get1 hP ha
      obtain ⟨c1, c2⟩ := hc c (List.mem_of_getElem? hcc)
      refine ⟨a, _, rfl, SqT.same s1 hR, rfl, _, _, rfl, _, _, rfl, rfl, rfl, ?_⟩
      refine ⟨_, rfl, _, _, _, rfl, true, ?_, ?_⟩
      · rw [decide_eq_true (show (0 : Int) ≤ (c.1 : Int) by omega), decide_eq_true (show (c.1 : Int) ≤ 9 by omega)]
        rfl
      refine ⟨_, rfl, _, rfl, _, _, rfl, rfl, _, _, _, rfl, List.replicate i (V.bl true), h1, ?_, ?_⟩
      · rw [List.length_replicate]
        have hi : i < qs.length := (List.getElem?_eq_some_iff.mp ha).1
        exact small1000 (by omega)
      · rw [decide_eq_true (show (0 : Int) ≤ (c.2 : Int) by omega), decide_eq_true (show (c.2 : Int) ≤ (k : Int) - 1 by omega)]
        refine ⟨fun b u e => ?_, ?_⟩
        · rw [upd_ne (ne_of_none e hD)]
          exact s1 b u e
        · rw [upd_same, List.replicate_succ']
          rfl
    · rintro H' ⟨s1, h1⟩
      refine ⟨D, List.replicate (qs.map V.ref).length true, rfl, SqL.of (by rw [h1, List.map_replicate]), ?_⟩
      have e : (List.replicate (qs.map V.ref).length true).all id = true := by
        rw [List.all_eq_true]
        intro b hb
        rw [List.eq_of_mem_replicate hb]
        rfl
      rw [e]
      exact q _ s1
theorem scLookT : FnScope ["table", "many", "at", "rows"] ["table"] (defScope sLookT) := ⟨rfl, rfl, rfl, by decide +kernel, rfl, by decide +kernel, by decide +kernel⟩
theorem ok_lookT {f f1 : Addr} {fd fd1 : FuncData} (F : Fun K "look_table" "look_table" sLookT f fd) (B : Blt mg) (Z : Cst mg) (G : Cal P w K mg base 2 "is_operation" f1 fd1 ["rows", "many"] (spOper K)) :
    FnOk P w K mg base CX0 3 f fd ["table"] (spLookT K) := by
  refine F.ok scLookT (fun vs H Q E h => ?_) (fun cdv A outer s H vs Q E hr h => ?_)
  · obtain ⟨t, T, k, rfl, _⟩ := h
    rfl
  · obtain ⟨t, T, k, rfl, hT, g, q⟩ := h
    obtain ⟨t4, e4⟩ := Z.opers
    refine ⟨_, pss_cons (ps_if (pt_cmpR op_eq (pe_callB call_len_seq (by rfl) B.len PySem.boot_len (pa_cons (pv 0) pa_nil)) pe_int (nomark _)) pss_never pss_nil)
      (pss_cons (ps_set (i := 1) scLookT.nd rfl (Or.inl rfl) (pe_callB call_len_seq (by rfl) B.len PySem.boot_len (pa_cons (pe_ix ix_tup (pv 0) pe_int (fun _ _ => rfl)) pa_nil)))
      (pss_one (ps_for PassesOwn.never rfl (pi_enumT (by rfl) B.enumerate (pa_cons (pv 0) pa_nil)) (pg_tup (by rfl) (pgs_cons (pg_name (i := 2) scLookT.nd rfl (.inl rfl)) (pgs_cons (pg_name (i := 3) scLookT.nd rfl (.inl rfl)) pgs_nil)))
        (pss_one (ps_if (PW.pt (pw_or (pt_cmpR op_ge (pv 2) (pe_glob (v := .int 4) (by rfl) e4 ⟨_, rfl⟩) (nomark _)) (pw_or1 (pt_not (pt_val (pe_call G.ok hr rfl G.mgf G.kp G.b .nil pass0 (pa_cons (pv 3) (pa_cons (pv 1) pa_nil)))))))) pss_never pss_nil))))), ?_⟩
    obtain ⟨os, hS, hP⟩ := id hT
    have hl := prd_len hP
    have g1 := g.ops1
    have g4 := g.ops4
    refine ⟨_, rfl, t, _, rfl, .inr hS, rfl, _, rfl, ?_⟩
    have n1 : ¬ V.int ((os.map V.ref).length : Nat) = V.int 0 := by
      rw [List.length_map, hl]
      intro z
      injection z with z
      omega
    refine itedF n1 ?_
    obtain ⟨r0, hr0, hm0, _⟩ := g.row (op := 0) (s := 0) (by omega) (by have := g.k1; omega)
    obtain ⟨xs, o0, hx0, hxl, ha0, hO0⟩ := hT.op hr0
    obtain ⟨qs0, hS0, hP0⟩ := hO0
    have hk0 : (qs0.map V.ref).length = k := by rw [List.length_map, prd_len hP0, (g.rows _ hm0).1]
    refine ⟨_, rfl, t, _, _, _, rfl, rfl, hx0, ha0, o0, _, rfl, .inr hS0, ?_⟩
    rw [hk0]
    refine ⟨_, rfl, t, _, rfl, hS, for_it (walk_enumT (K := K) (t := t) (xs := os.map V.ref)) (fun i σ H' => ∃ (v2 v3 : Option V), σ = [some (.ref t), some (nv k), v2, v3] ∧ Same H H') ⟨none, none, rfl, Same.refl H⟩ (fun i σ H' _ ⟨_, _, _, s1⟩ => SqT.same s1 hS) ?_ ?_⟩
    · rintro i x σ H' H'' hi' ⟨v2, v3, rfl, s1⟩ ⟨p, num, ox, rfl, hp, rfl, hnum, hx⟩
      obtain rfl : V.int (i : Nat) = num := Option.some.inj hnum
      obtain ⟨o, ho, rfl⟩ : ∃ a, os[i]? = some a ∧ ox = V.ref a := by
        have hx : (os.map V.ref)[i]? = some ox := hx
        rw [List.getElem?_map] at hx
        cases e : os[i]? with
        | none =>
          rw [e] at hx
          cases hx
        | some a =>
          rw [e] at hx
          exact ⟨a, rfl, (Option.some.inj hx).symm⟩
      obtain ⟨r, hrr, hO⟩ := prd_get1 hP ho
      have hi : i < T.length := (List.getElem?_eq_some_iff.mp hrr).1
      obtain ⟨hrl, hrc⟩ := g.rows r (List.mem_of_getElem? hrr)
      have s2 := s1.trans (same_new (o := .tup [.int (i : Nat), .ref o]) hp)
      refine ⟨p, _, rfl, SqT.of upd_same, rfl, _, _, rfl, _, _, rfl, rfl, ?_⟩
      refine ⟨_, rfl, _, _, rfl, rfl, _, rfl, itedF (show ¬ (4 : Int) ≤ (i : Nat) by omega) ?_⟩
      refine ⟨_, rfl, _, rfl, o, r, k, rfl, hO.same s2, hrl, g.k1, g.k5, hrc, fun H2 s3 => ?_⟩
      refine ⟨true, rfl, iteF ?_⟩
      exact ⟨_, _, rfl, s2.trans s3⟩
    · rintro σ H' ⟨v2, v3, rfl, s1⟩
      exact q _ s1
theorem scLookS : FnScope ["table", "stand"] ["table", "stand"] (defScope sLookS) := ⟨rfl, rfl, rfl, by decide +kernel, rfl, by decide +kernel, by decide +kernel⟩
theorem ok_lookS {f f1 : Addr} {fd fd1 : FuncData} (F : Fun K "look_stand" "look_stand" sLookS f fd) (B : Blt mg) (G : Cal P w K mg base 3 "look_table" f1 fd1 ["table"] (spLookT K)) :
    FnOk P w K mg base CX0 4 f fd ["table", "stand"] (spLookS K) := by
  refine F.ok scLookS (fun vs H Q E h => ?_) (fun cdv A outer s H vs Q E hr h => ?_)
  · obtain ⟨t, T, k, s, rfl, _⟩ := h
    rfl
  · obtain ⟨t, T, k, s, rfl, hT, g, hs, q⟩ := h
    refine ⟨_, pss_cons (ps_expr (pe_call G.ok hr rfl G.mgf G.kp G.b .nil pass0 (pa_cons (pv 0) pa_nil)))
      (pss_one (ps_if (pt_not (pt_chain op_le op_lt pe_int (pv 1) (pe_callB call_len_seq (by rfl) B.len PySem.boot_len (pa_cons (pe_ix ix_tup (pv 0) pe_int (fun _ _ => rfl)) pa_nil)))) pss_never pss_nil)), ?_⟩
    refine ⟨_, rfl, t, T, k, rfl, hT, g, fun H' s1 => ?_⟩
    obtain ⟨r0, hr0, hm0, _⟩ := g.row (op := 0) (s := 0) (by have := g.ops1; omega) (by have := g.k1; omega)
    obtain ⟨xs, o0, hx0, hxl, ha0, hO0⟩ := (hT.same s1).op hr0
    obtain ⟨qs0, hS0, hP0⟩ := hO0
    have hk0 : (qs0.map V.ref).length = k := by rw [List.length_map, prd_len hP0, (g.rows _ hm0).1]
    refine ⟨_, rfl, _, _, rfl, rfl, _, rfl, itedT (show (0 : Int) ≤ (s : Int) by omega) ?_⟩
    refine ⟨_, rfl, t, _, _, _, rfl, rfl, hx0, ha0, o0, _, rfl, .inr hS0, ?_⟩
    rw [hk0]
    exact ⟨_, _, rfl, rfl, _, rfl, iteNS (show (s : Int) < (k : Int) by omega) (q _ s1)⟩
theorem scLookO : FnScope ["table", "operation"] ["table", "operation"] (defScope sLookO) := ⟨rfl, rfl, rfl, by decide +kernel, rfl, by decide +kernel, by decide +kernel⟩
theorem ok_lookO {f : Addr} {fd : FuncData} (F : Fun K "look_operation" "look_operation" sLookO f fd) (B : Blt mg) : FnOk P w K mg base CX0 1 f fd ["table", "operation"] (spLookO K) := by
  refine F.ok scLookO (fun vs H Q E h => ?_) (fun cdv A outer s H vs Q E hr h => ?_)
  · obtain ⟨t, T, op, rfl, _⟩ := h
    rfl
  · obtain ⟨t, T, op, rfl, hT, ho, q⟩ := h
    refine ⟨_, pss_one (ps_if (pt_not (pt_chain op_le op_lt pe_int (pv 1) (pe_callB call_len_seq (by rfl) B.len PySem.boot_len (pa_cons (pv 0) pa_nil)))) pss_never pss_nil), ?_⟩
    obtain ⟨os, hS, hP⟩ := id hT
    have hl : (os.map V.ref).length = T.length := by rw [List.length_map, prd_len hP]
    refine ⟨_, rfl, _, _, rfl, rfl, _, rfl, itedT (show (0 : Int) ≤ (op : Int) by omega) ?_⟩
    refine ⟨_, rfl, t, _, rfl, .inr hS, ?_⟩
    rw [hl]
    exact ⟨_, _, rfl, rfl, _, rfl, iteNS (show (op : Int) < (T.length : Int) by omega) q⟩
theorem scLookM : FnScope ["many"] ["many"] (defScope sLookM) := ⟨rfl, rfl, rfl, by decide +kernel, rfl, by decide +kernel, by decide +kernel⟩
theorem ok_lookM {f : Addr} {fd : FuncData} (F : Fun K "look_many" "look_many" sLookM f fd) (Z : Cst mg) : FnOk P w K mg base CX0 1 f fd ["many"] spLookM := by
  refine F.ok scLookM (fun vs H Q E h => ?_) (fun cdv A outer s H vs Q E hr h => ?_)
  · obtain ⟨n, rfl, _⟩ := h
    rfl
  · obtain ⟨n, rfl, n2, n4, q⟩ := h
    obtain ⟨t4, e4⟩ := Z.hands
    refine ⟨_, pss_one (ps_if (pt_not (pt_chain op_le op_le pe_int (pv 0) (pe_glob (v := .int 4) (by rfl) e4 ⟨_, rfl⟩))) pss_never pss_nil), ?_⟩
    refine ⟨_, rfl, _, _, rfl, rfl, _, rfl, itedT (show (2 : Int) ≤ (n : Int) by omega) ?_⟩
    exact ⟨_, _, rfl, rfl, _, rfl, iteNS (show (n : Int) ≤ 4 by omega) q⟩
end
end Wf

/-! The methods of Roll. -/
namespace Wf
open PySem L2
abbrev sInit : Stmt := inClass (top 23) 0
abbrev sHand : Stmt := inClass (top 23) 2
abbrev sAsk : Stmt := inClass (top 23) 3
abbrev sIsPut : Stmt := inClass (top 23) 4
abbrev sWinner : Stmt := inClass (top 23) 5
abbrev sStep : Stmt := inClass (top 23) 6
abbrev sRows : Stmt := inClass (top 23) 7
abbrev sPend : Stmt := inClass (top 23) 8

theorem at_mapf {α β : Type} {f : α → β} {xs : List α} {i : Nat} {x : α} (h : xs[i]? = some x) : atI (xs.map f) (i : Int) = some (f x) := atI_nat (by rw [List.getElem?_map, h]; rfl)
theorem ix_mapf {α β : Type} {f : α → β} {xs : List α} {i : Nat} {x : α} (h : xs[i]? = some x) : ixN (xs.map f).length (i : Int) = some i := by
  have hi := (List.getElem?_eq_some_iff.mp h).1
  unfold ixN
  rw [List.length_map, if_pos (by omega), if_pos (by omega)]
  rfl
theorem rep_flat {α : Type} (x : α) : ∀ n : Nat, (List.replicate n [x]).flatten = List.replicate n x
  | 0 => rfl
  | n + 1 => by rw [List.replicate_succ, List.flatten_cons, rep_flat x n, List.replicate_succ]; rfl
theorem cut_drop (xs : List V) (g : Nat) (h : g ≤ xs.length) : cutV xs (some (g : Int)) none = xs.drop g := by
  unfold cutV
  rw [HT.sIx_nat, HT.sIx_none, Nat.min_eq_left h]
  exact List.take_of_length_le (by rw [List.length_drop]; exact Nat.le_refl _)
theorem dec_nv (a b : Nat) : decide (V.int (a : Int) = V.int (b : Int)) = (a == b) := by
  by_cases e : a = b
  · subst e
    simp
  · have n : ¬ V.int (a : Int) = V.int (b : Int) := fun z => by
      injection z with z
      omega
    rw [decide_eq_false n]
    exact (beq_eq_false_iff_ne.mpr e).symm
/-- two ways of a statement met again: M says what is so there -/
theorem pss_mid {X : Cx} {st : Stmt} {rest : List Stmt} {t u : TS} (h1 : PS X st t) (h2 : PSs X rest u) : PSs X (st :: rest) (fun D σ H => ∃ M : St → Hp → Prop, t { D with nx := M } σ H ∧ ∀ σ' H', M σ' H' → u D σ' H') := by
  refine ⟨fun pins s σ H D I h => ?_⟩
  obtain ⟨M, h, k⟩ := h
  refine wpAny_execs_cons (thn (h1.run pins s σ H { D with nx := M } I h) fun f s1 q => ?_)
  cases f with
  | next =>
    obtain ⟨σ', H', I', q⟩ := q
    exact h2.run pins s1 σ' H' D I' (k _ _ q)
  | ret v => exact q
  | brk => exact q
  | cont => exact q

section
variable {K : PySem.W.Frag} {C : Addr} {H H' : Hp} {L : RL} {n : Nat} {T : Tb} {S : RS}
theorem RollAt.nes (R : RollAt K C H L n T S) : L.lc ≠ L.la ∧ L.lc ≠ L.lg ∧ L.lc ≠ L.lh ∧ L.la ≠ L.lg ∧ L.la ≠ L.lh ∧ L.lg ≠ L.lh := by
  have h := R.nd
  simp only [RL.ms, List.nodup_cons, List.mem_cons, List.mem_nil_iff, or_false, not_or] at h
  exact ⟨h.1.1, h.1.2.1, h.1.2.2, h.2.1.1, h.2.1.2, h.2.2.1⟩
theorem one_mts {l : Addr} {xs : List V} (h : H l = some (.lst xs)) : Mts [l] H := fun b hb => by
  rw [List.mem_singleton.mp hb]
  exact ⟨xs, h⟩
theorem RollAt.setAsked (R : RollAt K C H L n T S) {as : List (Option Nat)} {xs : List V} (e : xs = as.map ov) : RollAt K C (upd H L.la (.lst xs)) L n T { S with asked := as } := by
  obtain ⟨n1, n2, n3, n4, n5, n6⟩ := R.nes
  have m := one_mts R.asked
  have b : But [L.la] H (upd H L.la (.lst xs)) := But.upd (by simp)
  obtain ⟨cs, h1, h2⟩ := R.cells
  refine ⟨?_, R.tab.but b m, ⟨cs, ?_, prd_map (fun a c q => SqT.but b m q) h2⟩, ?_, ?_, ?_, R.nd⟩
  · rw [upd_ne (fun z => R.pn (by rw [z]; simp))]
    exact R.ob
  · rw [upd_ne n1]
    exact h1
  · rw [upd_same, e]
  · rw [upd_ne n4.symm]
    exact R.gone
  · rw [upd_ne n5.symm]
    exact R.here
theorem RollAt.setGone (R : RollAt K C H L n T S) {gs : List Nat} {xs : List V} (e : xs = gs.map nv) : RollAt K C (upd H L.lg (.lst xs)) L n T { S with gone := gs } := by
  obtain ⟨n1, n2, n3, n4, n5, n6⟩ := R.nes
  have m := one_mts R.gone
  have b : But [L.lg] H (upd H L.lg (.lst xs)) := But.upd (by simp)
  obtain ⟨cs, h1, h2⟩ := R.cells
  refine ⟨?_, R.tab.but b m, ⟨cs, ?_, prd_map (fun a c q => SqT.but b m q) h2⟩, ?_, ?_, ?_, R.nd⟩
  · rw [upd_ne (fun z => R.pn (by rw [z]; simp))]
    exact R.ob
  · rw [upd_ne n2]
    exact h1
  · rw [upd_ne n4]
    exact R.asked
  · rw [upd_same, e]
  · rw [upd_ne n6.symm]
    exact R.here
theorem RollAt.setHere (R : RollAt K C H L n T S) {gs : List Nat} {xs : List V} (e : xs = gs.map nv) : RollAt K C (upd H L.lh (.lst xs)) L n T { S with here := gs } := by
  obtain ⟨n1, n2, n3, n4, n5, n6⟩ := R.nes
  have m := one_mts R.here
  have b : But [L.lh] H (upd H L.lh (.lst xs)) := But.upd (by simp)
  obtain ⟨cs, h1, h2⟩ := R.cells
  refine ⟨?_, R.tab.but b m, ⟨cs, ?_, prd_map (fun a c q => SqT.but b m q) h2⟩, ?_, ?_, ?_, R.nd⟩
  · rw [upd_ne (fun z => R.pn (by rw [z]; simp))]
    exact R.ob
  · rw [upd_ne n3]
    exact h1
  · rw [upd_ne n5]
    exact R.asked
  · rw [upd_ne n6]
    exact R.gone
  · rw [upd_same, e]
theorem RollAt.addCell (R : RollAt K C H L n T S) {q : Addr} {c : Nat × Nat} {cs : List Addr} (h1 : H L.lc = some (.lst (cs.map V.ref))) (h2 : Paired (RowAt K H) cs S.cells) (hq : RowAt K H q c) :
    RollAt K C (upd H L.lc (.lst (cs.map V.ref ++ [V.ref q]))) L n T { S with cells := S.cells ++ [c] } := by
  obtain ⟨n1, n2, n3, n4, n5, n6⟩ := R.nes
  have m := one_mts h1
  have b : But [L.lc] H (upd H L.lc (.lst (cs.map V.ref ++ [V.ref q]))) := But.upd (by simp)
  refine ⟨?_, R.tab.but b m, ⟨cs ++ [q], ?_, prd_snoc (prd_map (fun a c q => SqT.but b m q) h2) (SqT.but b m hq)⟩, ?_, ?_, ?_, R.nd⟩
  · rw [upd_ne (fun z => R.pn (by rw [z]; simp))]
    exact R.ob
  · rw [upd_same, List.map_append]
    rfl
  · rw [upd_ne n1.symm]
    exact R.asked
  · rw [upd_ne n2.symm]
    exact R.gone
  · rw [upd_ne n3.symm]
    exact R.here
end
theorem But.free {M : List Addr} {H H' : Hp} {q : Addr} (b : But M H H') (h : H' q = none) (n : q ∉ M) : H q = none := by
  cases e : H q with
  | none => rfl
  | some o =>
    rw [b q o e n] at h
    cases h
theorem len_put {f : Str} {v : V} {fs : List (Str × V)} {m : Nat} (h : fs.length ≤ m) : (putF f v fs).length ≤ m + 1 := Nat.le_trans (length_putF f v fs) (Nat.succ_le_succ h)

/-! ### promises -/
def S0 (n b : Nat) : RS := ⟨[], List.replicate n none, List.replicate n 0, List.replicate n b⟩
def spInit (K : PySem.W.Frag) (C : Addr) : Sp := fun vs H Q _ => ∃ (p dx t : Addr) (T : Tb) (k n b : Nat), vs = [.ref p, .ref t, nv n, nv b] ∧ H p = some (.ins C dx []) ∧ TabAt K H t T ∧ GoodT T k ∧ 2 ≤ n ∧ n ≤ 4 ∧ b < k ∧
  ∀ (H' : Hp) (L : RL), L.p = p → L.t = t → (∀ x ∈ L.ms, H x = none) → But [p] H H' → RollAt K C H' L n T (S0 n b) → Q .non H'
def spHand (C : Addr) : Sp := fun vs H Q _ => ∃ (L : RL) (n h : Nat), vs = [.ref L.p, nv h] ∧ H L.p = some (.ins C L.dx (rf L n)) ∧ h < n ∧ Q .non H
def spAsk (K : PySem.W.Frag) (C : Addr) : Sp := fun vs H Q _ => ∃ (L : RL) (n h op : Nat) (T : Tb) (S : RS), vs = [.ref L.p, nv h, nv op] ∧ RollAt K C H L n T S ∧ h < n ∧ S.asked[h]? = some none ∧ op < T.length ∧
  ∀ H', RollAt K C H' L n T (askS S h op) → But L.ms H H' → Q .non H'
def spIsPut (K : PySem.W.Frag) (C : Addr) : Sp := fun vs H Q _ => ∃ (L : RL) (n h : Nat) (T : Tb) (S : RS), vs = [.ref L.p, nv h] ∧ RollAt K C H L n T S ∧ h < S.gone.length ∧ S.gone.getD h 0 ≤ S.cells.length ∧ S.cells.length ≤ 500 ∧
  ∀ H', Same H H' → Q (.bl (isPut S h)) H'
def spWinner (K : PySem.W.Frag) (C : Addr) : Sp := fun vs H Q _ => ∃ (L : RL) (n h k : Nat) (T : Tb) (S : RS), vs = [.ref L.p, nv h] ∧ RollAt K C H L n T S ∧ RWf n T k S ∧ h < n ∧ S.cells.length ≤ 500 ∧
  ∀ H', Same H H' → Q (nv (winner n S h)) H'
def spStep (K : PySem.W.Frag) (C : Addr) : Sp := fun vs H Q _ => ∃ (L : RL) (n h op k : Nat) (T : Tb) (S : RS), vs = [.ref L.p, nv h] ∧ RollAt K C H L n T S ∧ RWf n T k S ∧ GoodT T k ∧ h < n ∧ S.asked[h]? = some (some op) ∧ S.cells.length ≤ 500 ∧
  ∀ H', RollAt K C H' L n T (stepS T n S h) → But L.ms H H' → Q (ov (stepA T n S h)) H'
def spRows (K : PySem.W.Frag) (C : Addr) : Sp := fun vs H Q _ => ∃ (L : RL) (n : Nat) (T : Tb) (S : RS), vs = [.ref L.p] ∧ RollAt K C H L n T S ∧
  ∀ l cs H', H l = none → Same H H' → H' l = some (.lst (cs.map V.ref)) → Paired (RowAt K H') cs S.cells → Q (.ref l) H'
def spPend (K : PySem.W.Frag) (C : Addr) : Sp := fun vs H Q _ => ∃ (L : RL) (n h : Nat) (T : Tb) (S : RS) (a : Option Nat), vs = [.ref L.p, nv h] ∧ RollAt K C H L n T S ∧ h < n ∧ S.asked[h]? = some a ∧ Q (ov a) H

section
variable {P : Program} {w : World} {K : PySem.W.Frag} {mg : Str → Option Value} {base : Heap} {C : Addr}
theorem scInit : FnScope ["self", "table", "many", "start"] ["self", "table", "many", "start"] (defScope sInit) := ⟨rfl, rfl, rfl, by decide +kernel, rfl, by decide +kernel, by decide +kernel⟩
theorem ok_init {f f1 f2 : Addr} {fd fd1 fd2 : FuncData} (F : FunD K "__init__" "Roll.__init__" (defArgs sInit) (defBody sInit) (defScope sInit) [] [("start", .int 0)] f fd) (X : RTxt K C)
    (G1 : Cal P w K mg base 4 "look_stand" f1 fd1 ["table", "stand"] (spLookS K)) (G2 : Cal P w K mg base 1 "look_many" f2 fd2 ["many"] spLookM) :
    FnOk P w K mg base CX0 5 f fd ["self", "table", "many", "start"] (spInit K C) := by
  refine F.ok scInit (fun vs H Q E h => ?_) (fun cdv A outer s H vs Q E hr h => ?_)
  · obtain ⟨p, dx, t, T, k, n, b, rfl, _⟩ := h
    rfl
  · obtain ⟨p, dx, t, T, k, n, b, rfl, hp, hT, g, n2, n4, hb, q⟩ := h
    refine ⟨_, PSs.nox (pss_cons (ps_expr (pe_call G1.ok hr rfl G1.mgf G1.kp G1.b .nil pass0 (pa_cons (pv 1) (pa_cons (pv 3) pa_nil))))
      (pss_cons (ps_expr (pe_call G2.ok (hr.mono (by decide)) rfl G2.mgf G2.kp G2.b .nil pass0 (pa_cons (pv 2) pa_nil)))
      (pss_cons (ps_fld (pv 0) (pv 1) rfl)
      (pss_cons (ps_fld (pv 0) (pv 2) rfl)
      (pss_cons (ps_fld (pv 0) (pe_lst pa_nil) rfl)
      (pss_cons (ps_fld (pv 0) (pe_op op_rep (pe_lst (pa_cons pe_non pa_nil)) (pv 2)) rfl)
      (pss_cons (ps_fld (pv 0) (pe_op op_rep (pe_lst (pa_cons pe_int pa_nil)) (pv 2)) rfl)
      (pss_one (ps_fld (pv 0) (pe_op op_rep (pe_lst (pa_cons (pv 3) pa_nil)) (pv 2)) rfl))))))))), ?_⟩
    refine ⟨_, rfl, _, rfl, t, T, k, b, rfl, hT, g, hb, fun H1 s1 => ?_⟩
    refine ⟨_, rfl, n, rfl, n2, n4, ?_⟩
    have hp1 := s1 _ _ hp
    have l0 : ([] : List (Str × V)).length ≤ 0 := Nat.le_refl _
    refine ⟨_, rfl, _, rfl, p, C, dx, [], rfl, hp1, X.cl, X.nTable, Nat.lt_of_le_of_lt l0 (by decide), ?_⟩
    have l1 := len_put (f := "table") (v := .ref t) l0
    refine ⟨_, rfl, _, rfl, p, C, dx, _, rfl, upd_same, X.cl, X.nMany, Nat.lt_of_le_of_lt l1 (by decide), ?_⟩
    have l2 := len_put (f := "many") (v := nv n) l1
    rw [upd_upd]
    -- self.cells = []
    refine ⟨Nat.zero_le _, fun lc hlc => ?_⟩
    have pc : p ≠ lc := fun e => by
      rw [← e, upd_same] at hlc
      cases hlc
    refine ⟨_, rfl, p, C, dx, _, rfl, (by rw [upd_ne pc, upd_same]), X.cl, X.nCells, Nat.lt_of_le_of_lt l2 (by decide), ?_⟩
    have l3 := len_put (f := "cells") (v := .ref lc) l2
    have hlc1 : H1 lc = none := by
      rw [upd_ne pc.symm] at hlc
      exact hlc
    generalize e3 : putF "cells" (V.ref lc) (putF "many" (nv n) (putF "table" (V.ref t) [])) = f3 at l3 ⊢
    generalize eH3 : upd (upd (upd H1 p (HO.ins C dx (putF "many" (nv n) (putF "table" (V.ref t) [])))) lc (HO.lst [])) p (HO.ins C dx f3) = H3
    have p3 : H3 p = some (.ins C dx f3) := by rw [← eH3, upd_same]
    have c3 : H3 lc = some (.lst []) := by rw [← eH3, upd_ne pc.symm, upd_same]
    have b3 : But [p] H H3 := fun c o e m => by
      have m' : c ≠ p := fun z => m (by simp [z])
      rw [← eH3, upd_ne m', upd_ne (ne_of_none (s1 _ _ e) hlc1), upd_ne m']
      exact s1 _ _ e
    -- self.asked = [None] * many
    refine ⟨(by show 1 ≤ sizeLine; decide), fun x1 hx1 => ⟨_, rfl, x1, _, _, rfl, rfl, upd_same, by omega, by omega, ?_, fun la hla => ?_⟩⟩
    · have : ((n : Int)).toNat ≤ 4 := by omega
      exact Nat.le_trans (Nat.mul_le_mul_left 1 this) (by decide)
    have a1 : H3 la = none := by
      have z : la ≠ x1 := fun e => by
        rw [e, upd_same] at hla
        cases hla
      rw [upd_ne z] at hla
      exact hla
    have pa : p ≠ la := ne_of_none p3 a1
    have px1 : p ≠ x1 := ne_of_none p3 hx1
    refine ⟨_, rfl, p, C, dx, _, rfl, (by rw [upd_ne pa, upd_ne px1]; exact p3), X.cl, X.nAsked, Nat.lt_of_le_of_lt l3 (by decide), ?_⟩
    have l4 := len_put (f := "asked") (v := .ref la) l3
    generalize e4 : putF "asked" (V.ref la) f3 = f4 at l4 ⊢
    rw [rep_flat]
    generalize eH4 : upd (upd (upd H3 x1 (HO.lst [V.non])) la (HO.lst (List.replicate ((n : Int)).toNat V.non))) p (HO.ins C dx f4) = H4
    have p4 : H4 p = some (.ins C dx f4) := by rw [← eH4, upd_same]
    have ca : lc ≠ la := ne_of_none c3 a1
    have c4 : H4 lc = some (.lst []) := by
      rw [← eH4, upd_ne pc.symm, upd_ne ca, upd_ne (ne_of_none c3 hx1)]
      exact c3
    have a4 : H4 la = some (.lst (List.replicate ((n : Int)).toNat V.non)) := by rw [← eH4, upd_ne pa.symm, upd_same]
    have b34 : But [p] H3 H4 := fun c o e m => by
      rw [← eH4, upd_ne (fun z => m (by simp [z])), upd_ne (ne_of_none e a1), upd_ne (ne_of_none e hx1)]
      exact e
    -- self.gone = [0] * many
    refine ⟨(by show 1 ≤ sizeLine; decide), fun x2 hx2 => ⟨_, rfl, x2, _, _, rfl, rfl, upd_same, by omega, by omega, ?_, fun lg hlg => ?_⟩⟩
    · have : ((n : Int)).toNat ≤ 4 := by omega
      exact Nat.le_trans (Nat.mul_le_mul_left 1 this) (by decide)
    have g1 : H4 lg = none := by
      have z : lg ≠ x2 := fun e => by
        rw [e, upd_same] at hlg
        cases hlg
      rw [upd_ne z] at hlg
      exact hlg
    have pg : p ≠ lg := ne_of_none p4 g1
    have px2 : p ≠ x2 := ne_of_none p4 hx2
    refine ⟨_, rfl, p, C, dx, _, rfl, (by rw [upd_ne pg, upd_ne px2]; exact p4), X.cl, X.nGone, Nat.lt_of_le_of_lt l4 (by decide), ?_⟩
    have l5 := len_put (f := "gone") (v := .ref lg) l4
    generalize e5 : putF "gone" (V.ref lg) f4 = f5 at l5 ⊢
    rw [rep_flat]
    generalize eH5 : upd (upd (upd H4 x2 (HO.lst [V.int 0])) lg (HO.lst (List.replicate ((n : Int)).toNat (V.int 0)))) p (HO.ins C dx f5) = H5
    have p5 : H5 p = some (.ins C dx f5) := by rw [← eH5, upd_same]
    have b45 : But [p] H4 H5 := fun c o e m => by
      rw [← eH5, upd_ne (fun z => m (by simp [z])), upd_ne (ne_of_none e g1), upd_ne (ne_of_none e hx2)]
      exact e
    have g5 : H5 lg = some (.lst (List.replicate ((n : Int)).toNat (V.int 0))) := by rw [← eH5, upd_ne pg.symm, upd_same]
    have c5 := b45 _ _ c4 (by simp [pc.symm])
    have a5 := b45 _ _ a4 (by simp [pa.symm])
    -- self.here = [start] * many
    refine ⟨_, rfl, (by show 1 ≤ sizeLine; decide), fun x3 hx3 => ⟨_, rfl, x3, _, _, rfl, rfl, upd_same, by omega, by omega, ?_, fun lh hlh => ?_⟩⟩
    · have : ((n : Int)).toNat ≤ 4 := by omega
      exact Nat.le_trans (Nat.mul_le_mul_left 1 this) (by decide)
    have h1 : H5 lh = none := by
      have z : lh ≠ x3 := fun e => by
        rw [e, upd_same] at hlh
        cases hlh
      rw [upd_ne z] at hlh
      exact hlh
    have ph : p ≠ lh := ne_of_none p5 h1
    have px3 : p ≠ x3 := ne_of_none p5 hx3
    refine ⟨_, rfl, p, C, dx, _, rfl, (by rw [upd_ne ph, upd_ne px3]; exact p5), X.cl, X.nHere, Nat.lt_of_le_of_lt l5 (by decide), ?_⟩
    rw [rep_flat]
    generalize eH6 : upd (upd (upd H5 x3 (HO.lst [nv b])) lh (HO.lst (List.replicate ((n : Int)).toNat (nv b)))) p (HO.ins C dx (putF "here" (V.ref lh) f5)) = H6
    have p6 : H6 p = some (.ins C dx (putF "here" (V.ref lh) f5)) := by rw [← eH6, upd_same]
    have b56 : But [p] H5 H6 := fun c o e m => by
      rw [← eH6, upd_ne (fun z => m (by simp [z])), upd_ne (ne_of_none e h1), upd_ne (ne_of_none e hx3)]
      exact e
    have h6 : H6 lh = some (.lst (List.replicate ((n : Int)).toNat (nv b))) := by rw [← eH6, upd_ne ph.symm, upd_same]
    have b6 : But [p] H H6 := b3.trans (b34.trans (b45.trans b56))
    have en : ((n : Int)).toNat = n := by omega
    rw [en] at a5 g5 h6
    have c6 := b56 _ _ c5 (by simp [pc.symm])
    have a6 := b56 _ _ a5 (by simp [pa.symm])
    have g6 := b56 _ _ g5 (by simp [pg.symm])
    have fr : ∀ {x : Addr} {Hc : Hp}, But [p] H Hc → Hc x = none → x ≠ p → H x = none := fun bb hx hne => bb.free hx (by simp [hne])
    refine q H6 ⟨p, dx, lc, la, lg, lh, t⟩ rfl rfl (fun x hx => ?_) b6 ⟨?_, ?_, ⟨[], c6, .nil⟩, ?_, ?_, ?_, ?_⟩
    · simp only [RL.ms, List.mem_cons, List.mem_nil_iff, or_false] at hx
      rcases hx with rfl | rfl | rfl | rfl
      · exact s1.free hlc1
      · exact fr b3 a1 pa.symm
      · exact fr (b3.trans b34) g1 pg.symm
      · exact fr (b3.trans (b34.trans b45)) h1 ph.symm
    · rw [p6, ← e5, ← e4, ← e3]
      rfl
    · refine hT.imp fun a xs hq => ?_
      rcases hq with (hq | ⟨o, hq⟩) | hq
      · refine .inl (.inl (b6 _ _ hq fun z => ?_))
        rw [List.mem_singleton.mp z, hp] at hq
        cases hq
      · refine .inl (.inr ⟨o, b6 _ _ hq fun z => ?_⟩)
        rw [List.mem_singleton.mp z, hp] at hq
        cases hq
      · exact .inr hq
    · show H6 la = some (.lst ((List.replicate n none).map ov))
      rw [a6, List.map_replicate]
      rfl
    · show H6 lg = some (.lst ((List.replicate n 0).map nv))
      rw [g6, List.map_replicate]
      rfl
    · show H6 lh = some (.lst ((List.replicate n b).map nv))
      rw [h6, List.map_replicate]
    · have cg : lc ≠ lg := ne_of_none c4 g1
      have ch : lc ≠ lh := ne_of_none c5 h1
      have ag : la ≠ lg := ne_of_none a4 g1
      have ah : la ≠ lh := ne_of_none a5 h1
      have gh : lg ≠ lh := ne_of_none g5 h1
      simp [RL.ms, ca, cg, ch, ag, ah, gh]

theorem scHand : FnScope ["self", "hand"] ["self", "hand"] (defScope sHand) := ⟨rfl, rfl, rfl, by decide +kernel, rfl, by decide +kernel, by decide +kernel⟩
theorem ok_hand {f : Addr} {fd : FuncData} (F : Fun K "look_hand" "Roll.look_hand" sHand f fd) (X : RTxt K C) : FnOk P w K mg base CX0 1 f fd ["self", "hand"] (spHand C) := by
  refine F.ok scHand (fun vs H Q E h => ?_) (fun cdv A outer s H vs Q E hr h => ?_)
  · obtain ⟨L, n, h, rfl, _⟩ := h
    rfl
  · obtain ⟨L, n, h, rfl, hp, hn, q⟩ := h
    refine ⟨_, pss_one (ps_if (pt_not (pt_chain op_le op_lt pe_int (pv 1) (pe_fld (pv 0) rfl))) pss_never pss_nil), ?_⟩
    refine ⟨_, rfl, _, _, rfl, rfl, _, rfl, itedT (show (0 : Int) ≤ (h : Int) by omega) ?_⟩
    exact ⟨_, rfl, L.p, C, L.dx, _, _, rfl, hp, X.cl, X.nMany, rf_many L n, _, _, rfl, rfl, _, rfl, iteNS (show (h : Int) < (n : Int) by omega) q⟩
theorem scAsk : FnScope ["self", "hand", "operation"] ["self", "hand", "operation"] (defScope sAsk) := ⟨rfl, rfl, rfl, by decide +kernel, rfl, by decide +kernel, by decide +kernel⟩
theorem ok_ask {f f1 f2 : Addr} {fd fd1 fd2 : FuncData} (F : Fun K "ask" "Roll.ask" sAsk f fd) (X : RTxt K C) (G1 : Mth P w K mg base C 1 "look_hand" f1 fd1 ["self", "hand"] (spHand C))
    (G2 : Cal P w K mg base 1 "look_operation" f2 fd2 ["table", "operation"] (spLookO K)) : FnOk P w K mg base CX0 2 f fd ["self", "hand", "operation"] (spAsk K C) := by
  refine F.ok scAsk (fun vs H Q E h => ?_) (fun cdv A outer s H vs Q E hr h => ?_)
  · obtain ⟨L, n, h, op, T, S, rfl, _⟩ := h
    rfl
  · obtain ⟨L, n, h, op, T, S, rfl, R, hn, ha, ho, q⟩ := h
    refine ⟨_, pss_cons (ps_expr (pe_meth (pv 0) X.cl G1.me G1.ok hr G1.b .nil pass0 (pa_cons (pv 1) pa_nil)))
      (pss_cons (ps_if (pt_cmp (pc_notN (pe_ix ix_list (pe_fld (pv 0) rfl) (pv 1) (fun _ _ => rfl)))) pss_never pss_nil)
      (pss_cons (ps_expr (pe_call G2.ok hr rfl G2.mgf G2.kp G2.b .nil pass0 (pa_cons (pe_fld (pv 0) rfl) (pa_cons (pv 2) pa_nil))))
      (pss_one (ps_asg (pv 2) (pg_sub (pe_fld (pv 0) rfl) (pv 1) set_list))))), ?_⟩
    refine ⟨_, rfl, L.p, L.dx, _, rfl, R.ob, rf_no L n (by decide +kernel), _, rfl, L, n, h, rfl, R.ob, hn, ?_⟩
    refine ⟨_, rfl, L.p, C, L.dx, _, _, rfl, R.ob, X.cl, X.nAsked, rf_asked L n, _, rfl, L.la, _, _, _, rfl, rfl, SqL.of R.asked, at_mapf ha, _, rfl, iteF ?_⟩
    refine ⟨_, rfl, L.p, C, L.dx, _, _, rfl, R.ob, X.cl, X.nTable, rf_table L n, _, rfl, L.t, T, op, rfl, R.tab, ho, ?_⟩
    refine ⟨_, rfl, _, rfl, L.p, C, L.dx, _, _, rfl, R.ob, X.cl, X.nAsked, rf_asked L n, _, rfl, L.la, _, _, h, rfl, rfl, R.asked, ix_mapf ha, ?_⟩
    refine q _ (R.setAsked ?_) (But.upd (by simp))
    rw [List.map_set]
    rfl
theorem scIsPut : FnScope ["self", "hand", "own", "operation"] ["self", "hand"] (defScope sIsPut) := ⟨rfl, rfl, rfl, by decide +kernel, rfl, by decide +kernel, by decide +kernel⟩
theorem ok_isPut {f : Addr} {fd : FuncData} (F : Fun K "is_put" "Roll.is_put" sIsPut f fd) (X : RTxt K C) (B : Blt mg) : FnOk P w K mg base CX0 1 f fd ["self", "hand"] (spIsPut K C) := by
  refine F.ok scIsPut (fun vs H Q E h => ?_) (fun cdv A outer s H vs Q E hr h => ?_)
  · obtain ⟨L, n, h, T, S, rfl, _⟩ := h
    rfl
  · obtain ⟨L, n, h, T, S, rfl, R, hg, hgl, hlen, q⟩ := h
    refine ⟨_, pss_one (ps_ret (pe_callB (cr_any rfl) (by rfl) B.any (by decide +kernel) (pa_cons (pe_lc (own := [("own", 2), ("operation", 3)]) (g := gTup K 2 (gCons (gName 2) (gCons (gName 3) gNil))) (tt := tYes) rfl scIsPut.nd
        (pi_list (pe_slice sl_list (pe_fld (pv 0) rfl) (po_some (pe_ix ix_list (pe_fld (pv 0) rfl) (pv 1) (fun _ _ => rfl))) po_none))
        (blkOk_by (own := [("own", 2), ("operation", 3)]) (N := ["self", "hand", "own", "operation"]) (sc := defScope sIsPut) (by decide +kernel))
        (fun _ _ _ _ _ => pg_tup rfl (pgs_cons (pg_name (i := 2) scIsPut.nd rfl (.inl rfl)) (pgs_cons (pg_name (i := 3) scIsPut.nd rfl (.inl rfl)) pgs_nil))) (fun _ _ _ _ _ => pts_nil)
        (fun _ _ _ _ _ => pe_cmpR op_eq (pv 2) (pv 1) (nomark _))) pa_nil))), ?_⟩
    obtain ⟨cs, h1, h2⟩ := R.cells
    have hcl := prd_len h2
    have hgo := get_getD 0 hg
    refine ⟨_, rfl, L.p, C, L.dx, _, _, rfl, R.ob, X.cl, X.nCells, rf_cells L n, _, rfl, L.p, C, L.dx, _, _, rfl, R.ob, X.cl, X.nGone, rf_gone L n, _, rfl, L.lg, _, _, _, rfl, rfl, SqL.of R.gone, at_mapf hgo, _, rfl, L.lc, _, rfl, SqL.of h1, fun sl hsl => ?_⟩
    rw [cut_drop _ _ (by rw [List.length_map, hcl]; exact hgl), ← List.map_drop]
    have s1 : Same H (upd H sl (.lst ((cs.drop (S.gone.getD h 0)).map V.ref))) := same_new hsl
    refine ⟨sl, rfl, ⟨_, SqL.of upd_same⟩, fun D hD => ?_⟩
    refine lc_list (K := K) (a := sl) (xs := (cs.drop (S.gone.getD h 0)).map V.ref)
      (fun i H' => Same (upd H sl (.lst ((cs.drop (S.gone.getD h 0)).map V.ref))) H' ∧ H' D = some (.lst (((S.cells.drop (S.gone.getD h 0)).take i).map fun c => V.bl (c.1 == h)))) ⟨same_new hD, upd_same⟩ (fun i H' _ g => g.1.seq (SqL.of upd_same)) ?_ ?_
    · rintro i x H' hx ⟨s2, hL⟩
      obtain ⟨a, ha, rfl⟩ : ∃ a, (cs.drop (S.gone.getD h 0))[i]? = some a ∧ x = V.ref a := by
        rw [List.getElem?_map] at hx
        cases e : (cs.drop (S.gone.getD h 0))[i]? with
        | none =>
          rw [e] at hx
          cases hx
        | some a =>
          rw [e] at hx
          exact ⟨a, rfl, (Option.some.inj hx).symm⟩
      obtain ⟨c, hc, hR⟩ := prd_get1 (prd_drop _ h2) ha
      refine ⟨a, _, rfl, SqT.same s2 (SqT.same s1 hR), rfl, _, _, rfl, _, _, rfl, rfl, rfl, ?_⟩
      refine ⟨_, rfl, _, rfl, rfl, _, hL, ?_, ?_⟩
      · rw [List.length_map]
        refine small1000 (Nat.le_trans (List.length_take_le' _ _) ?_)
        rw [List.length_drop]
        omega
      · refine ⟨fun b u e => ?_, ?_⟩
        · rw [upd_ne (ne_of_none e hD)]
          exact s2 b u e
        · rw [upd_same, take_succ_of hc, List.map_append]
          show some (HO.lst (_ ++ [V.bl (decide (V.int (c.1 : Int) = V.int (h : Int)))])) = _
          rw [dec_nv]
          rfl
    · rintro H' ⟨s2, hL⟩
      refine ⟨D, (S.cells.drop (S.gone.getD h 0)).map fun c => c.1 == h, rfl, SqL.of ?_, ?_⟩
      · rw [hL, List.map_map, List.take_of_length_le (by rw [List.length_map, List.length_drop, List.length_drop, hcl]; exact Nat.le_refl _)]
        rfl
      · rw [List.any_map]
        exact q _ (s1.trans s2)
theorem scWinner : FnScope ["self", "hand", "turn"] ["self", "hand"] (defScope sWinner) := ⟨rfl, rfl, rfl, by decide +kernel, rfl, by decide +kernel, by decide +kernel⟩
theorem ok_winner {f f1 : Addr} {fd fd1 : FuncData} (F : Fun K "winner" "Roll.winner" sWinner f fd) (X : RTxt K C) (B : Blt mg) (G1 : Mth P w K mg base C 1 "is_put" f1 fd1 ["self", "hand"] (spIsPut K C)) :
    FnOk P w K mg base CX0 2 f fd ["self", "hand"] (spWinner K C) := by
  refine F.ok scWinner (fun vs H Q E h => ?_) (fun cdv A outer s H vs Q E hr h => ?_)
  · obtain ⟨L, n, h, k, T, S, rfl, _⟩ := h
    rfl
  · obtain ⟨L, n, h, k, T, S, rfl, R, W, hn, hlen, q⟩ := h
    refine ⟨_, pss_cons (ps_set (i := 2) scWinner.nd rfl (Or.inl rfl) (pe_op op_mod (pe_callB call_len_seq (by rfl) B.len PySem.boot_len (pa_cons (pe_fld (pv 0) rfl) pa_nil)) (pe_fld (pv 0) rfl)))
      (pss_one (ps_ret (pe_ifExp (PW.pt (pw_and (pt_cmp (pc_notN (pe_ix ix_list (pe_fld (pv 0) rfl) (pv 2) (fun _ _ => rfl)))) (pw_and1 (pt_not (pt_val (pe_meth (pv 0) X.cl G1.me G1.ok hr G1.b .nil pass0 (pa_cons (pv 2) pa_nil))))))) (pv 2) (pv 1)))), ?_⟩
    obtain ⟨cs, h1, h2⟩ := R.cells
    have hcl : (cs.map V.ref).length = S.cells.length := by rw [List.length_map, prd_len h2]
    refine ⟨_, rfl, L.p, C, L.dx, _, _, rfl, R.ob, X.cl, X.nCells, rf_cells L n, L.lc, _, rfl, .inl (SqL.of h1), _, rfl, L.p, C, L.dx, _, _, rfl, R.ob, X.cl, X.nMany, rf_many L n, _, _, rfl, rfl, (show (0 : Int) < (n : Int) by omega), ?_⟩
    rw [hcl]
    have em : ((S.cells.length : Nat) : Int) % (n : Int) = ((S.cells.length % n : Nat) : Int) := rfl
    dsimp only
    rw [em]
    have hm : S.cells.length % n < n := Nat.mod_lt _ (by omega)
    have ha := get_getD none (show S.cells.length % n < S.asked.length by rw [W.la]; exact hm)
    have hg := get_getD 0 (show S.cells.length % n < S.gone.length by rw [W.lg]; exact hm)
    refine ⟨_, rfl, L.p, C, L.dx, _, _, rfl, R.ob, X.cl, X.nAsked, rf_asked L n, _, rfl, L.la, _, _, _, rfl, rfl, SqL.of R.asked, at_mapf ha, _, rfl, ?_⟩
    cases ea : S.asked.getD (S.cells.length % n) none with
    | none =>
      refine iteF ?_
      have e : winner n S h = h := by
        unfold winner
        rw [ea]
        rfl
      rw [e] at q
      exact iteF ⟨_, rfl, q H (Same.refl H)⟩
    | some p =>
      refine iteT ?_
      refine ⟨_, rfl, L.p, L.dx, _, rfl, R.ob, rf_no L n (by decide +kernel), _, rfl, L, n, _, T, S, rfl, R, by rw [W.lg]; exact hm, W.gle _ (List.mem_of_getElem? hg), hlen, fun H' s1 => ?_⟩
      refine ⟨_, rfl, ?_⟩
      cases ep : isPut S (S.cells.length % n) with
      | true =>
        have e : winner n S h = h := by
          unfold winner
          rw [ea, ep]
          rfl
        rw [e] at q
        exact iteF ⟨_, rfl, q H' s1⟩
      | false =>
        have e : winner n S h = S.cells.length % n := by
          unfold winner
          rw [ea, ep]
          rfl
        rw [e] at q
        exact iteT ⟨_, rfl, q H' s1⟩
theorem scRows : FnScope ["self"] ["self"] (defScope sRows) := ⟨rfl, rfl, rfl, by decide +kernel, rfl, by decide +kernel, by decide +kernel⟩
theorem ok_rows {f : Addr} {fd : FuncData} (F : Fun K "rows" "Roll.rows" sRows f fd) (X : RTxt K C) (B : Blt mg) : FnOk P w K mg base CX0 1 f fd ["self"] (spRows K C) := by
  refine F.ok scRows (fun vs H Q E h => ?_) (fun cdv A outer s H vs Q E hr h => ?_)
  · obtain ⟨L, n, T, S, rfl, _⟩ := h
    rfl
  · obtain ⟨L, n, T, S, rfl, R, q⟩ := h
    refine ⟨_, pss_one (ps_ret (pe_callTy call_list_of (by rfl) B.list (by decide +kernel) (pa_cons (pe_fld (pv 0) rfl) pa_nil))), ?_⟩
    obtain ⟨cs, h1, h2⟩ := R.cells
    refine ⟨_, rfl, L.p, C, L.dx, _, _, rfl, R.ob, X.cl, X.nCells, rf_cells L n, L.lc, _, rfl, .inl (SqL.of h1), fun l hl => ?_⟩
    exact q l cs _ hl (same_new hl) upd_same (prd_map (fun a c e => SqT.same (same_new hl) e) h2)
theorem scPend : FnScope ["self", "hand"] ["self", "hand"] (defScope sPend) := ⟨rfl, rfl, rfl, by decide +kernel, rfl, by decide +kernel, by decide +kernel⟩
theorem ok_pend {f f1 : Addr} {fd fd1 : FuncData} (F : Fun K "pending" "Roll.pending" sPend f fd) (X : RTxt K C) (G1 : Mth P w K mg base C 1 "look_hand" f1 fd1 ["self", "hand"] (spHand C)) : FnOk P w K mg base CX0 2 f fd ["self", "hand"] (spPend K C) := by
  refine F.ok scPend (fun vs H Q E h => ?_) (fun cdv A outer s H vs Q E hr h => ?_)
  · obtain ⟨L, n, h, T, S, a, rfl, _⟩ := h
    rfl
  · obtain ⟨L, n, h, T, S, a, rfl, R, hn, ha, q⟩ := h
    refine ⟨_, pss_cons (ps_expr (pe_meth (pv 0) X.cl G1.me G1.ok hr G1.b .nil pass0 (pa_cons (pv 1) pa_nil))) (pss_one (ps_ret (pe_ix ix_list (pe_fld (pv 0) rfl) (pv 1) (fun _ _ => rfl)))), ?_⟩
    refine ⟨_, rfl, L.p, L.dx, _, rfl, R.ob, rf_no L n (by decide +kernel), _, rfl, L, n, h, rfl, R.ob, hn, ?_⟩
    exact ⟨_, rfl, L.p, C, L.dx, _, _, rfl, R.ob, X.cl, X.nAsked, rf_asked L n, _, rfl, L.la, _, _, _, rfl, rfl, SqL.of R.asked, at_mapf ha, q⟩
theorem scStep : FnScope ["self", "hand", "own", "operation", "answer"] ["self", "hand"] (defScope sStep) := ⟨rfl, rfl, rfl, by decide +kernel, rfl, by decide +kernel, by decide +kernel⟩
theorem ok_step {f f1 f2 : Addr} {fd fd1 fd2 : FuncData} (F : Fun K "step" "Roll.step" sStep f fd) (X : RTxt K C) (B : Blt mg) (G1 : Mth P w K mg base C 1 "look_hand" f1 fd1 ["self", "hand"] (spHand C))
    (G2 : Mth P w K mg base C 2 "winner" f2 fd2 ["self", "hand"] (spWinner K C)) : FnOk P w K mg base CX0 3 f fd ["self", "hand"] (spStep K C) := by
  refine F.ok scStep (fun vs H Q E h => ?_) (fun cdv A outer s H vs Q E hr h => ?_)
  · obtain ⟨L, n, h, op, k, T, S, rfl, _⟩ := h
    rfl
  · obtain ⟨L, n, h, op, k, T, S, rfl, R, W, g, hn, ha, hlen, q⟩ := h
    refine ⟨_, pss_cons (ps_expr (pe_meth (pv 0) X.cl G1.me G1.ok (hr.mono (by decide)) G1.b .nil pass0 (pa_cons (pv 1) pa_nil)))
      (pss_cons (ps_if (pt_cmp (pc_isN (pe_ix ix_list (pe_fld (pv 0) rfl) (pv 1) (fun _ _ => rfl)))) pss_never pss_nil)
      (pss_mid (ps_if (pt_cmpR op_eq (pe_ix ix_list (pe_fld (pv 0) rfl) (pv 1) (fun _ _ => rfl)) (pe_callB call_len_seq (by rfl) B.len PySem.boot_len (pa_cons (pe_fld (pv 0) rfl) pa_nil)) (nomark _))
        (pss_cons (ps_set (i := 2) scStep.nd rfl (Or.inl rfl) (pe_meth (pv 0) X.cl G2.me G2.ok hr G2.b .nil pass0 (pa_cons (pv 1) pa_nil)))
          (pss_one (ps_expr (pe_bm PySem.F.plainAttrs_list PySem.F.slot_list_append PySem.F.type_list_append mt_append (pe_fld (pv 0) rfl)
            (pa_cons (pe_tup (pa_cons (pv 2) (pa_cons (pe_ix ix_list (pe_fld (pv 0) rfl) (pv 2) (fun _ _ => rfl)) pa_nil))) pa_nil)))))
        pss_nil)
      (pss_cons (ps_asg (pe_ix ix_list (pe_fld (pv 0) rfl) (pe_ix ix_list (pe_fld (pv 0) rfl) (pv 1) (fun _ _ => rfl)) (fun _ _ => rfl)) (pg_tup (by rfl) (pgs_cons (pg_name (i := 2) scStep.nd rfl (.inl rfl)) (pgs_cons (pg_name (i := 3) scStep.nd rfl (.inl rfl)) pgs_nil))))
      (pss_cons (ps_asg (pe_ix ix_tup (pe_ix ix_tup (pe_fld (pv 0) rfl) (pv 3) (fun _ _ => rfl)) (pe_ix ix_list (pe_fld (pv 0) rfl) (pv 1) (fun _ _ => rfl)) (fun _ _ => rfl))
        (pg_tup (by rfl) (pgs_cons (pg_name (i := 4) scStep.nd rfl (.inl rfl)) (pgs_cons (pg_sub (pe_fld (pv 0) rfl) (pv 1) set_list) pgs_nil))))
      (pss_cons (ps_augS (pe_fld (pv 0) rfl) (pv 1) get_nat pe_int ip_add set_list)
      (pss_cons (ps_if (pt_cmpR op_ne (pv 2) (pv 1) (nomark _)) (pss_one (ps_ret pe_non)) pss_nil)
      (pss_cons (ps_asg pe_non (pg_sub (pe_fld (pv 0) rfl) (pv 1) set_list))
      (pss_one (ps_ret (pv 4)))))))))), ?_⟩
    have hgo := get_getD 0 (show h < S.gone.length by rw [W.lg]; exact hn)
    obtain ⟨gc, gl⟩ := W.grown hn ha
    refine ⟨_, rfl, L.p, L.dx, _, rfl, R.ob, rf_no L n (by decide +kernel), _, rfl, L, n, h, rfl, R.ob, hn, ?_⟩
    refine ⟨_, rfl, L.p, C, L.dx, _, _, rfl, R.ob, X.cl, X.nAsked, rf_asked L n, _, rfl, L.la, _, _, _, rfl, rfl, SqL.of R.asked, at_mapf ha, _, rfl, iteF ?_⟩
    -- the cell
    refine ⟨fun σ' H' => ∃ v2 : Option V, σ' = [some (.ref L.p), some (nv h), v2, none, none] ∧ RollAt K C H' L n T { S with cells := grown n S h } ∧ But L.ms H H', ?_, ?_⟩
    · obtain ⟨cs, h1, h2⟩ := R.cells
      have hcl : (cs.map V.ref).length = S.cells.length := by rw [List.length_map, prd_len h2]
      refine ⟨_, rfl, L.p, C, L.dx, _, _, rfl, R.ob, X.cl, X.nGone, rf_gone L n, _, rfl, L.lg, _, _, _, rfl, rfl, SqL.of R.gone, at_mapf hgo, _, rfl, L.p, C, L.dx, _, _, rfl, R.ob, X.cl, X.nCells, rf_cells L n, L.lc, _, rfl, .inl (SqL.of h1), rfl, _, rfl, ?_⟩
      rw [hcl]
      refine ited (fun e => ?_) fun e => ?_
      · have eg : S.gone.getD h 0 = S.cells.length := by
          injection e with e
          omega
        refine ⟨_, rfl, L.p, L.dx, _, rfl, R.ob, rf_no L n (by decide +kernel), _, rfl, L, n, h, k, T, S, rfl, R, W, hn, hlen, fun H1 s1 => ?_⟩
        obtain ⟨hw, p, hp⟩ := winner_ok W.la hn ha
        have R1 := R.same s1
        have h1' := s1 _ _ h1
        have h2' := prd_map (fun a c e => SqT.same s1 e) h2
        refine ⟨_, rfl, L.p, C, L.dx, _, _, rfl, R1.ob, X.cl, X.nCells, rf_cells L n, .inl ⟨rfl, _, SqL.of h1'⟩, _, rfl, _, rfl, L.p, C, L.dx, _, _, rfl, R1.ob, X.cl, X.nAsked, rf_asked L n, _, rfl, L.la, _, _, _, rfl, rfl, SqL.of R1.asked, at_mapf hp,
          (by show 2 ≤ sizeLine; decide), fun tp htp => ?_⟩
        have s2 := same_new (o := .tup [nv (winner n S h), ov (some p)]) htp
        have R2 := R1.same s2
        refine ⟨L.lc, _, _, rfl, rfl, s2 _ _ h1', small1000 (by rw [hcl]; omega), ?_⟩
        refine ⟨_, rfl, ?_, ?_⟩
        · have R3 := R2.addCell (q := tp) (c := (winner n S h, p)) (s2 _ _ h1') (prd_map (fun a c e => SqT.same s2 e) h2') (SqT.of upd_same)
          have eg2 : grown n S h = S.cells ++ [(winner n S h, p)] := by
            unfold grown
            rw [if_pos eg, getD_of hp]
            rfl
          rw [eg2]
          exact R3
        · exact (But.of (s1.trans s2)).trans (But.upd (by simp))
      · have eg : ¬ S.gone.getD h 0 = S.cells.length := fun z => e (by rw [z])
        refine ⟨none, rfl, ?_, But.refl _ _⟩
        have eg2 : grown n S h = S.cells := by
          unfold grown
          rw [if_neg eg]
        rw [eg2]
        exact R
    · rintro σ' H1 ⟨v2, rfl, R1, b1⟩
      obtain ⟨cs, h1, h2⟩ := R1.cells
      have hc : (grown n S h)[S.gone.getD h 0]? = some (cellAt n S h) := get_getD _ gl
      obtain ⟨a, ha1, hR⟩ := prd_get h2 hc
      refine ⟨_, rfl, L.p, C, L.dx, _, _, rfl, R1.ob, X.cl, X.nCells, rf_cells L n, _, rfl, L.p, C, L.dx, _, _, rfl, R1.ob, X.cl, X.nGone, rf_gone L n, _, rfl, L.lg, _, _, _, rfl, rfl, SqL.of R1.gone, at_mapf hgo, L.lc, _, _, _, rfl, rfl, SqL.of h1, at_map ha1,
        a, _, rfl, hR, rfl, _, _, rfl, _, _, rfl, rfl, ?_⟩
      -- the table's row
      have hhe := get_getD 0 (show h < S.here.length by rw [W.lh]; exact hn)
      have hlt := W.hlt _ (List.mem_of_getElem? hhe)
      have hop := (gc _ (List.mem_of_getElem? hc)).2
      obtain ⟨r, hr1, hr2, hr3, hr4, hr5⟩ := g.row hop hlt
      obtain ⟨xs, o, hx1, hx2, hx3, hO⟩ := R1.tab.op hr1
      obtain ⟨ys, qa, hy1, hy2, hy3⟩ := hO.row hr3
      refine ⟨_, rfl, L.p, C, L.dx, _, _, rfl, R1.ob, X.cl, X.nTable, rf_table L n, _, rfl, L.t, _, _, _, rfl, rfl, hx1, hx3, _, rfl, L.p, C, L.dx, _, _, rfl, R1.ob, X.cl, X.nHere, rf_here L n, _, rfl, L.lh, _, _, _, rfl, rfl, SqL.of R1.here, at_mapf hhe,
        o, _, _, _, rfl, rfl, hy1, hy2, qa, _, rfl, hy3, rfl, _, _, rfl, _, _, rfl, _, rfl, L.p, C, L.dx, _, _, rfl, R1.ob, X.cl, X.nHere, rf_here L n, _, rfl, L.lh, _, _, h, rfl, rfl, R1.here, ix_mapf hhe, rfl, ?_⟩
      have erow : rowAt T (cellAt n S h).2 (S.here.getD h 0) = rowOf T n S h := rfl
      rw [erow]
      have R2 := R1.setHere (gs := S.here.set h (rowOf T n S h).2) (xs := (S.here.map nv).set h (nv (rowOf T n S h).2)) (by rw [List.map_set])
      have b2 : But L.ms H (upd H1 L.lh (.lst ((S.here.map nv).set h (nv (rowOf T n S h).2)))) := b1.trans (But.upd (by simp))
      generalize upd H1 L.lh (.lst ((S.here.map nv).set h (nv (rowOf T n S h).2))) = H2 at R2 b2 ⊢
      -- self.gone[hand] += 1
      refine ⟨_, rfl, L.p, C, L.dx, _, _, rfl, R2.ob, X.cl, X.nGone, rf_gone L n, _, rfl, L.lg, _, h, nv (S.gone.getD h 0), rfl, rfl, SqL.of R2.gone, (by rw [List.getElem?_map, hgo]; rfl), _, _, rfl, rfl, L.lg, _, _, h, rfl, rfl, R2.gone, ix_mapf hgo, ?_⟩
      have e1 : ((S.gone.getD h 0 : Nat) : Int) + 1 = ((S.gone.getD h 0 + 1 : Nat) : Int) := by omega
      dsimp only
      rw [e1]
      have R3 := R2.setGone (gs := S.gone.set h (S.gone.getD h 0 + 1)) (xs := (S.gone.map nv).set h (nv (S.gone.getD h 0 + 1))) (by rw [List.map_set])
      have b3 : But L.ms H (upd H2 L.lg (.lst ((S.gone.map nv).set h (nv (S.gone.getD h 0 + 1))))) := b2.trans (But.upd (by simp))
      generalize upd H2 L.lg (.lst ((S.gone.map nv).set h (nv (S.gone.getD h 0 + 1)))) = H3 at R3 b3 ⊢
      refine ⟨_, rfl, _, rfl, rfl, _, rfl, itedN (fun e => ?_) fun e => ?_⟩
      · have ne : ¬ (cellAt n S h).1 = h := fun z => e (by rw [z])
        have eA : stepA T n S h = none := by
          unfold stepA
          rw [if_neg ne]
        rw [eA] at q
        refine q _ ?_ b3
        have eS : (stepS T n S h) = { cells := grown n S h, asked := S.asked, gone := S.gone.set h (S.gone.getD h 0 + 1), here := S.here.set h (rowOf T n S h).2 } := by
          unfold stepS
          rw [if_neg ne]
        rw [eS]
        exact R3
      · have ee : (cellAt n S h).1 = h := by
          injection e with e
          omega
        refine ⟨_, rfl, L.p, C, L.dx, _, _, rfl, R3.ob, X.cl, X.nAsked, rf_asked L n, _, rfl, L.la, _, _, h, rfl, rfl, R3.asked, ix_mapf ha, ?_⟩
        have R4 := R3.setAsked (as := S.asked.set h none) (xs := (S.asked.map ov).set h .non) (by rw [List.map_set]; rfl)
        have eA : stepA T n S h = some (rowOf T n S h).1 := by
          unfold stepA
          rw [if_pos ee]
        rw [eA] at q
        refine ⟨_, rfl, q _ ?_ (b3.trans (But.upd (by simp)))⟩
        have eS : (stepS T n S h) = { cells := grown n S h, asked := S.asked.set h none, gone := S.gone.set h (S.gone.getD h 0 + 1), here := S.here.set h (rowOf T n S h).2 } := by
          unfold stepS
          rw [if_pos ee]
        rw [eS]
        exact R4
end
end Wf

/-! The law's own helpers: what is drawn of a script, tables of it, and the comparison. -/
namespace Wf
open PySem L2
abbrev sNumbers : Stmt := top 25
abbrev sKnown : Stmt := top 26
abbrev sLRows : Stmt := top 27
abbrev sTable : Stmt := top 28
abbrev sSame : Stmt := top 29
def kn0 : List Tb := [[[(0, 1), (1, 1)]], [[(0, 1), (1, 1), (2, 2)], [(0, 2), (1, 1), (2, 2)]]]
def kn1 : List Tb := [[[(0, 1), (0, 1), (0, 1)], [(0, 2), (0, 2), (0, 2)]]]
def kn2 : List Tb := [[[(0, 1), (1, 1), (2, 1)], [(0, 2), (1, 2), (2, 2)]]]
def kn3 : List Tb := [[[(0, 1), (1, 2), (2, 0)]], [[(0, 1), (0, 0)]]]
def kn4 : List Tb := [[[(0, 1), (0, 1), (0, 2)], [(0, 2), (0, 1), (0, 2)]]]
def kn5 : List Tb := [[[(0, 1), (0, 2), (0, 3), (0, 3)], [(1, 0), (1, 0), (1, 0), (1, 0)]]]
def known : List Tb := kn0 ++ kn1 ++ kn2 ++ kn3 ++ kn4 ++ kn5
def goodB (T : Tb) (k : Nat) : Bool := decide (1 ≤ T.length) && decide (T.length ≤ 4) && decide (1 ≤ k) && decide (k ≤ 5) && T.all fun r => decide (r.length = k) && r.all fun c => decide (c.1 ≤ 9) && decide (c.2 < k)
theorem good_of {T : Tb} {k : Nat} (h : goodB T k = true) : GoodT T k := by
  unfold goodB at h
  simp only [Bool.and_eq_true, decide_eq_true_eq, List.all_eq_true] at h
  obtain ⟨⟨⟨⟨h1, h2⟩, h3⟩, h4⟩, h5⟩ := h
  exact ⟨h1, h2, h3, h4, fun r hr => ⟨(h5 r hr).1, fun c hc => (h5 r hr).2 c hc⟩⟩
theorem known_good : ∀ T ∈ known, ∃ k, GoodT T k := by
  intro T hT
  have h : known.all (fun T => (List.range 6).any (goodB T)) = true := by decide +kernel
  obtain ⟨k, _, hk⟩ := List.any_eq_true.mp (List.all_eq_true.mp h T hT)
  exact ⟨k, good_of hk⟩
theorem known_length : known.length = 8 := by decide +kernel

def tCatN (K : PySem.W.Frag) (i : Nat) (Us : List Tb) : TE := fun σ H Q => ∃ (l : Addr) (Ts : List Tb), σ[i]? = some (some (.ref l)) ∧ LTab K H l Ts ∧ Ts.length + Us.length ≤ 1000 ∧ ∀ p H', Same H H' → LTab K H' p (Ts ++ Us) → Q (.ref p) H'
theorem pe_catN {X : Cx} (i : Nat) {a b : Expr} {pos : Pos} {Us : List Tb} (ha : PE X a (tVar i)) (hb : PE X b (tLTab X.K Us)) : PE X (.BinOp a .Add b pos) (tCatN X.K i Us) :=
  pe_weak (pe_op op_cat ha hb) fun σ H Q q => by
    obtain ⟨l, Ts, e, ⟨ts, e1, g1⟩, hl, q⟩ := q
    refine ⟨_, e, fun m H2 s2 g2 => ?_⟩
    obtain ⟨us, e2, g2⟩ := g2
    refine ⟨l, m, _, _, rfl, rfl, s2 _ _ e1, e2, by rw [List.length_map, List.length_map, prd_len g1, prd_len g2]; exact Nat.le_of_lt (small1000 hl), fun p hp => ?_⟩
    exact q p _ (s2.trans (same_new hp)) ⟨ts ++ us, by rw [List.map_append]; exact upd_same, prd_append (prd_map (fun a c e => e.same (s2.trans (same_new hp))) g1) (prd_map (fun a c e => e.same (same_new hp)) g2)⟩
theorem cut_take (xs : List V) (k : Nat) : cutV xs none (some (k : Int)) = xs.take k := by
  unfold cutV
  rw [HT.sIx_nat, HT.sIx_none, List.drop_zero, Nat.sub_zero]
  rcases Nat.le_total k xs.length with h | h
  · rw [Nat.min_eq_left h]
  · rw [Nat.min_eq_right h, List.take_of_length_le (Nat.le_refl _), List.take_of_length_le h]
theorem cut_mid (xs : List V) (a b : Nat) (h1 : a ≤ b) (h2 : b ≤ xs.length) : cutV xs (some (a : Int)) (some (b : Int)) = (xs.drop a).take (b - a) := by
  unfold cutV
  rw [HT.sIx_nat, HT.sIx_nat, Nat.min_eq_left h2, Nat.min_eq_left (Nat.le_trans h1 h2)]
theorem int_at {ms : List Int} {i : Nat} (h : i < ms.length) : atI (ms.map V.int) (i : Int) = some (V.int (ms.getD i 0)) := at_mapf (get_getD 0 h)
/-- a drawn number's rest, a natural number -/
theorem rest_nat (x : Int) {d : Nat} (h : 0 < d) : ∃ j : Nat, x % (d : Int) = (j : Int) ∧ j < d := by
  have h1 := Int.emod_nonneg x (show (d : Int) ≠ 0 by omega)
  have h2 := Int.emod_lt_of_pos x (show (0 : Int) < (d : Int) by omega)
  exact ⟨(x % (d : Int)).toNat, by omega, by omega⟩

/-! ### promises -/
def spNumbers (K : PySem.W.Frag) : Sp := fun vs H Q _ => ∃ (a : Addr) (ns : List Int), vs = [.ref a, .int 320] ∧ SqL K H a (ns.map V.int) ∧ ns.length ≤ 63 ∧ ∀ (p : Addr) (ms : List Int) (H' : Hp), ms.length = 320 → Same H H' → H' p = some (.lst (ms.map V.int)) → Q (.ref p) H'
def spKnown (K : PySem.W.Frag) : Sp := fun vs H Q _ => ∃ (a : Addr) (ms : List Int), vs = [.ref a] ∧ SqL K H a (ms.map V.int) ∧ 0 < ms.length ∧ ∀ (t : Addr) (T : Tb) (k : Nat) (H' : Hp), GoodT T k → TabAt K H' t T → Same H H' → Q (.ref t) H'
def spLRows (K : PySem.W.Frag) : Sp := fun vs H Q _ => ∃ (a : Addr) (ms : List Int) (k : Nat), vs = [.ref a, nv k] ∧ SqL K H a (ms.map V.int) ∧ 6 ≤ ms.length ∧ 1 ≤ k ∧ k ≤ 5 ∧
  ∀ (o : Addr) (r : List (Nat × Nat)) (H' : Hp), r.length = k → (∀ c ∈ r, c.1 ≤ 9 ∧ c.2 < k) → OpAt K H' o r → Same H H' → Q (.ref o) H'
def spTable (K : PySem.W.Frag) : Sp := fun vs H Q _ => ∃ (a : Addr) (ms : List Int), vs = [.ref a, .int 5, .int 4] ∧ SqL K H a (ms.map V.int) ∧ ms.length = 320 ∧ ∀ (t : Addr) (T : Tb) (k : Nat) (H' : Hp), GoodT T k → TabAt K H' t T → Same H H' → Q (.ref t) H'
def spSame : Sp := fun vs H Q _ => ∃ (x y : Int), vs = [.int x, .int y] ∧ ∀ H', Same H H' → Q (.bl (decide (x = y))) H'

section
variable {P : Program} {w : World} {K : PySem.W.Frag} {mg : Str → Option Value} {base : Heap}
theorem scNumbers : FnScope ["_law_script", "_law_many", "_law_drawn", "_law_seed", "_law_cell", "_law_rest", "_law_k"] ["_law_script", "_law_many"] (defScope sNumbers) := ⟨rfl, rfl, rfl, by decide +kernel, rfl, by decide +kernel, by decide +kernel⟩
theorem ok_numbers {f : Addr} {fd : FuncData} (F : Fun K "_law_numbers" "_law_numbers" sNumbers f fd) (B : Blt mg) : FnOk P w K mg base CX0 1 f fd ["_law_script", "_law_many"] (spNumbers K) := by
  refine F.ok scNumbers (fun vs H Q E h => ?_) (fun cdv A outer s H vs Q E hr h => ?_)
  · obtain ⟨a, ns, rfl, _⟩ := h
    rfl
  · obtain ⟨a, ns, rfl, hS, hlen, q⟩ := h
    refine ⟨_, pss_cons (ps_set (i := 2) scNumbers.nd rfl (Or.inl rfl) (pe_lst pa_nil))
      (pss_cons (ps_set (i := 3) scNumbers.nd rfl (Or.inl rfl) pe_int)
      (pss_cons (ps_for PassesOwn.never rfl (pi_list (pe_slice sl_list (pv 0) po_none (po_some pe_int))) (pg_name (i := 4) scNumbers.nd rfl (Or.inl rfl))
        (pss_cons (ps_set (i := 3) scNumbers.nd rfl (Or.inl rfl) (pe_op op_mod (pe_op op_add (pe_op op_add (pe_op op_mul (pv 3) pe_int) (pe_op op_mod (pv 4) pe_int)) pe_int) pe_int))
        (pss_cons (ps_set (i := 5) scNumbers.nd rfl (Or.inl rfl) (pe_op op_sub (pv 4) (pe_op op_pow pe_int pe_int)))
        (pss_mid (ps_if (pt_cmpR op_lt (pv 5) pe_int (nomark _)) (pss_one (ps_expr (pe_bm PySem.F.plainAttrs_list PySem.F.slot_list_append PySem.F.type_list_append mt_append (pv 2) (pa_cons (pe_op op_mod (pv 4) pe_int) pa_nil)))) pss_nil)
        (pss_one (ps_for PassesOwn.never rfl (pi_range1 rfl B.range (pa_cons pe_int pa_nil)) (pg_name (i := 6) scNumbers.nd rfl (Or.inl rfl))
          (pss_one (ps_if (pt_cmpR op_gt (pv 5) pe_int (nomark _))
            (pss_cons (ps_expr (pe_bm PySem.F.plainAttrs_list PySem.F.slot_list_append PySem.F.type_list_append mt_append (pv 2) (pa_cons (pe_op op_mod (pv 5) pe_int) pa_nil)))
              (pss_one (ps_set (i := 5) scNumbers.nd rfl (Or.inl rfl) (pe_op op_fdiv (pv 5) pe_int)))) pss_nil))))))))
      (pss_cons (ps_while PassesOwn.never (pt_cmpR op_lt (pe_callB call_len_seq (by rfl) B.len PySem.boot_len (pa_cons (pv 2) pa_nil)) (pv 1) (nomark _))
        (pss_cons (ps_set (i := 3) scNumbers.nd rfl (Or.inl rfl) (pe_op op_mod (pe_op op_add (pe_op op_add (pe_op op_add (pe_op op_mul (pv 3) (pv 3)) (pe_op op_mul pe_int (pv 3)))
            (pe_op op_mul pe_int (pe_callB call_len_seq (by rfl) B.len PySem.boot_len (pa_cons (pv 2) pa_nil)))) pe_int) pe_int))
          (pss_one (ps_expr (pe_bm PySem.F.plainAttrs_list PySem.F.slot_list_append PySem.F.type_list_append mt_append (pv 2) (pa_cons (pe_op op_mod (pe_op op_fdiv (pv 3) pe_int) pe_int) pa_nil))))))
      (pss_one (ps_ret (pe_slice sl_list (pv 2) po_none (po_some (pv 1)))))))), ?_⟩
    refine ⟨Nat.zero_le _, fun d hd => ?_⟩
    have s0 : Same H (upd H d (.lst [])) := same_new hd
    refine ⟨_, rfl, _, rfl, a, _, rfl, s0.seq hS, fun sl hsl => ?_⟩
    have e63 : cutV (ns.map V.int) none (some 63) = (ns.take 63).map V.int := by
      have := cut_take (ns.map V.int) 63
      rw [← List.map_take] at this
      exact this
    rw [e63]
    have s1 : Same (upd H d (.lst [])) (upd (upd H d (.lst [])) sl (.lst ((ns.take 63).map V.int))) := same_new hsl
    have hsd : sl ≠ d := fun e => by
      rw [e, upd_same] at hsl
      cases hsl
    have h63 : ((ns.take 63).map V.int).length ≤ 63 := by
      rw [List.length_map]
      exact List.length_take_le _ _
    refine ⟨sl, rfl, ⟨_, SqL.of upd_same⟩, for_list (K := K) (a := sl) (xs := (ns.take 63).map V.int)
      (fun i σ H' => ∃ (seed : Int) (ms : List Int) (v4 v5 v6 : Option V), σ = [some (.ref a), some (.int 320), some (.ref d), some (.int seed), v4, v5, v6] ∧ Same H H' ∧ H' d = some (.lst (ms.map V.int)) ∧ H' sl = some (.lst ((ns.take 63).map V.int)) ∧ 0 ≤ seed ∧ seed < 4294967296 ∧ ms.length ≤ 61 * i)
      ⟨61, [], none, none, none, rfl, s0.trans s1, by rw [upd_ne hsd.symm, upd_same]; rfl, upd_same, by decide, by decide, Nat.le_refl _⟩ (fun i σ H' _ ⟨_, _, _, _, _, _, _, _, h, _⟩ => SqL.of h) ?_ ?_⟩
    · rintro i x σ H1 hx ⟨seed, ms, v4, v5, v6, rfl, S1, hD, hSl, p1, p2, hl⟩
      have hi : i < 63 := Nat.lt_of_lt_of_le (List.getElem?_eq_some_iff.mp hx).1 h63
      obtain ⟨z, rfl⟩ : ∃ z, x = V.int z := by
        rw [List.getElem?_map] at hx
        cases e : (ns.take 63)[i]? with
        | none =>
          rw [e] at hx
          cases hx
        | some z =>
          rw [e] at hx
          exact ⟨z, (Option.some.inj hx).symm⟩
      have hdH : H d = none := hd
      have hslH : H sl = none := s0.free hsl
      have keep : ∀ {H2 : Hp} (ys : List V), Same H H2 → Same H (upd H2 d (.lst ys)) := fun ys S2 b o e => by
        rw [upd_ne (ne_of_none e hdH)]
        exact S2 b o e
      refine ⟨_, rfl, _, _, rfl, rfl, .inr ⟨by decide, by decide⟩, _, rfl, _, _, rfl, rfl, (by show (0 : Int) < 999983; decide), _, _, rfl, rfl, _, _, rfl, rfl, _, _, rfl, rfl, (by show (0 : Int) < 2147483399; decide), ?_⟩
      dsimp only
      generalize es : (seed * 40692 + z % 999983 + 29) % 2147483399 = seed'
      have q1 : 0 ≤ seed' := by rw [← es]; exact Int.emod_nonneg _ (by decide)
      have q2 : seed' < 4294967296 := by
        have := Int.emod_lt_of_pos (seed * 40692 + z % 999983 + 29) (show (0 : Int) < 2147483399 by decide)
        omega
      refine ⟨_, rfl, _, _, rfl, rfl, ⟨by decide, by decide, by decide⟩, _, _, rfl, rfl, ?_⟩
      dsimp only
      generalize z - 10 ^ (18 : Int).toNat = rest
      refine ⟨fun σ' H' => ∃ ms' : List Int, σ' = [some (.ref a), some (.int 320), some (.ref d), some (.int seed'), some (.int z), some (.int rest), v6] ∧ Same H H' ∧ H' d = some (.lst (ms'.map V.int)) ∧ H' sl = some (.lst ((ns.take 63).map V.int)) ∧ ms'.length ≤ 61 * i + 1, ?_, ?_⟩
      · refine ⟨_, rfl, _, _, rfl, rfl, _, rfl, ited (fun e => ?_) fun e => ?_⟩
        · refine ⟨_, rfl, .inl ⟨rfl, _, SqL.of hD⟩, _, rfl, _, _, rfl, rfl, (by show (0 : Int) < 9973; decide), d, _, _, rfl, rfl, hD, ?_, ?_⟩
          · rw [List.length_map]
            exact Nat.lt_of_le_of_lt (Nat.le_trans hl (show 61 * i ≤ 4000 by omega)) (by decide)
          · refine ⟨ms ++ [z % 9973], rfl, keep _ S1, by rw [upd_same, List.map_append]; rfl, by rw [upd_ne hsd]; exact hSl, ?_⟩
            rw [List.length_append, List.length_singleton]
            omega
        · exact ⟨ms, rfl, S1, hD, hSl, by omega⟩
      · rintro σ' H2 ⟨ms', rfl, S2, hD2, hSl2, hl2⟩
        refine ⟨60, rfl, by decide, by decide, for_range (lo := 0) (n := 60)
          (fun j σ H' => ∃ (rs : Int) (ks : List Int) (v6 : Option V), σ = [some (.ref a), some (.int 320), some (.ref d), some (.int seed'), some (.int z), some (.int rs), v6] ∧ Same H H' ∧ H' d = some (.lst (ks.map V.int)) ∧ H' sl = some (.lst ((ns.take 63).map V.int)) ∧ ks.length ≤ 61 * i + 1 + j)
          ⟨rest, ms', v6, rfl, S2, hD2, hSl2, by omega⟩ ?_ ?_⟩
        · rintro j σ H3 hj ⟨rs, ks, v, rfl, S3, hD3, hSl3, hl3⟩
          refine ⟨_, rfl, _, _, rfl, rfl, _, rfl, ited (fun e => ?_) fun e => ?_⟩
          · refine ⟨_, rfl, .inl ⟨rfl, _, SqL.of hD3⟩, _, rfl, _, _, rfl, rfl, (by show (0 : Int) < 1019; decide), d, _, _, rfl, rfl, hD3, ?_, ?_⟩
            · rw [List.length_map]
              exact Nat.lt_of_le_of_lt (Nat.le_trans hl3 (show 61 * i + 1 + j ≤ 5000 by omega)) (by decide)
            · refine ⟨_, rfl, _, _, rfl, rfl, ⟨by decide, by decide⟩, ?_⟩
              refine ⟨_, ks ++ [rs % 1019], _, rfl, keep _ S3, by rw [upd_same, List.map_append]; rfl, by rw [upd_ne hsd]; exact hSl3, ?_⟩
              rw [List.length_append, List.length_singleton]
              omega
          · exact ⟨rs, ks, _, rfl, S3, hD3, hSl3, by omega⟩
        · rintro σ H3 ⟨rs, ks, v, rfl, S3, hD3, hSl3, hl3⟩
          exact ⟨seed', ks, _, _, _, rfl, S3, hD3, hSl3, q1, q2, by omega⟩
    · rintro σ H1 ⟨seed, ms, v4, v5, v6, rfl, S1, hD, hSl, p1, p2, hl⟩
      have hdH : H d = none := hd
      have keep : ∀ {H2 : Hp} (ys : List V), Same H H2 → Same H (upd H2 d (.lst ys)) := fun ys S2 b o e => by
        rw [upd_ne (ne_of_none e hdH)]
        exact S2 b o e
      have hl4 : ms.length ≤ 4000 := by omega
      refine ⟨fun m σ H' => ∃ (sd : Int) (ks : List Int), σ = [some (.ref a), some (.int 320), some (.ref d), some (.int sd), v4, v5, v6] ∧ Same H H' ∧ H' d = some (.lst (ks.map V.int)) ∧ 0 ≤ sd ∧ sd < 4294967296 ∧ ks.length ≤ 4000 ∧ m = 320 - ks.length,
        ⟨_, seed, ms, rfl, S1, hD, p1, p2, hl4, rfl⟩, ?_⟩
      rintro m σ H2 ⟨sd, ks, rfl, S2, hD2, r1, r2, hl2, rfl⟩
      refine ⟨_, rfl, d, _, rfl, .inl (SqL.of hD2), _, rfl, _, _, rfl, rfl, _, rfl, ?_⟩
      rw [List.length_map]
      refine ited (fun e => ?_) fun e => ?_
      · have hk : ks.length < 320 := by omega
        refine ⟨fun σ' H' => ∃ (sd : Int) (ks' : List Int), σ' = [some (.ref a), some (.int 320), some (.ref d), some (.int sd), v4, v5, v6] ∧ Same H H' ∧ H' d = some (.lst (ks'.map V.int)) ∧ 0 ≤ sd ∧ sd < 4294967296 ∧ ks'.length = ks.length + 1, ?_, ?_⟩
        · rintro σ' H' ⟨sd', ks', e1, e2, e3, e4, e5, e6⟩
          exact ⟨320 - ks'.length, by omega, sd', ks', e1, e2, e3, e4, e5, by omega, rfl⟩
        · refine ⟨_, rfl, _, rfl, _, _, rfl, rfl, .inl ⟨by omega, by omega⟩, _, rfl, _, _, rfl, rfl, .inl ⟨by decide, by decide⟩, _, _, rfl, rfl, _, rfl, d, _, rfl, .inl (SqL.of hD2), _, _, rfl, rfl, .inl ⟨by decide, by decide⟩, _, _, rfl, rfl, _, _, rfl, rfl, _, _, rfl, rfl, (by show (0 : Int) < 2147483563; decide), ?_⟩
          dsimp only
          generalize es : (sd * sd + 40014 * sd + 23 * ((ks.map V.int).length : Int) + 7) % 2147483563 = sd'
          have q1 : 0 ≤ sd' := by rw [← es]; exact Int.emod_nonneg _ (by decide)
          have q2 : sd' < 4294967296 := by
            have := Int.emod_lt_of_pos (sd * sd + 40014 * sd + 23 * ((ks.map V.int).length : Int) + 7) (show (0 : Int) < 2147483563 by decide)
            omega
          refine ⟨_, rfl, .inl ⟨rfl, _, SqL.of hD2⟩, _, rfl, _, _, rfl, rfl, ⟨by decide, by decide⟩, _, _, rfl, rfl, (by show (0 : Int) < 9973; decide), d, _, _, rfl, rfl, hD2, ?_, ?_⟩
          · rw [List.length_map]
            exact Nat.lt_of_le_of_lt hl2 (by decide)
          · refine ⟨sd', ks ++ [sd' / 1021 % 9973], rfl, keep _ S2, by rw [upd_same, List.map_append]; rfl, q1, q2, ?_⟩
            rw [List.length_append, List.length_singleton]
      · have hk : 320 ≤ ks.length := by omega
        refine ⟨_, rfl, _, rfl, _, rfl, d, _, rfl, SqL.of hD2, fun p hp => ?_⟩
        have e320 : cutV (ks.map V.int) none (some 320) = (ks.take 320).map V.int := by
          have := cut_take (ks.map V.int) 320
          rw [← List.map_take] at this
          exact this
        rw [e320]
        exact q p _ _ (by rw [List.length_take]; omega) (S2.trans (same_new hp)) upd_same
theorem scKnown : FnScope ["_law_d", "_law_some"] ["_law_d"] (defScope sKnown) := ⟨rfl, rfl, rfl, by decide +kernel, rfl, by decide +kernel, by decide +kernel⟩
theorem ok_known {f : Addr} {fd : FuncData} (F : Fun K "_law_known" "_law_known" sKnown f fd) : FnOk P w K mg base CX0 1 f fd ["_law_d"] (spKnown K) := by
  refine F.ok scKnown (fun vs H Q E h => ?_) (fun cdv A outer s H vs Q E hr h => ?_)
  · obtain ⟨a, ms, rfl, _⟩ := h
    rfl
  · obtain ⟨a, ms, rfl, hS, hlen, q⟩ := h
    refine ⟨_, (pss_cons (ps_set (i := 1) scKnown.nd rfl (Or.inl rfl) (pe_lTab (pa_tabsC (pe_tabC (pa_opsC (pe_opC (pa_rowsC (pe_rowC (0, 1) rfl rfl) (pa_rowsC (pe_rowC (1, 1) rfl rfl) pa_rowsC_nil)) (by decide)) pa_opsC_nil) (by decide)) (pa_tabsC (pe_tabC (pa_opsC (pe_opC (pa_rowsC (pe_rowC (0, 1) rfl rfl) (pa_rowsC (pe_rowC (1, 1) rfl rfl) (pa_rowsC (pe_rowC (2, 2) rfl rfl) pa_rowsC_nil))) (by decide)) (pa_opsC (pe_opC (pa_rowsC (pe_rowC (0, 2) rfl rfl) (pa_rowsC (pe_rowC (1, 1) rfl rfl) (pa_rowsC (pe_rowC (2, 2) rfl rfl) pa_rowsC_nil))) (by decide)) pa_opsC_nil)) (by decide)) pa_tabsC_nil)) (by decide)))
      (pss_cons (ps_set (i := 1) scKnown.nd rfl (Or.inl rfl) (pe_catN 1 (pv 1) (pe_lTab (pa_tabsC (pe_tabC (pa_opsC (pe_opC (pa_rowsC (pe_rowC (0, 1) rfl rfl) (pa_rowsC (pe_rowC (0, 1) rfl rfl) (pa_rowsC (pe_rowC (0, 1) rfl rfl) pa_rowsC_nil))) (by decide)) (pa_opsC (pe_opC (pa_rowsC (pe_rowC (0, 2) rfl rfl) (pa_rowsC (pe_rowC (0, 2) rfl rfl) (pa_rowsC (pe_rowC (0, 2) rfl rfl) pa_rowsC_nil))) (by decide)) pa_opsC_nil)) (by decide)) pa_tabsC_nil) (by decide))))
      (pss_cons (ps_set (i := 1) scKnown.nd rfl (Or.inl rfl) (pe_catN 1 (pv 1) (pe_lTab (pa_tabsC (pe_tabC (pa_opsC (pe_opC (pa_rowsC (pe_rowC (0, 1) rfl rfl) (pa_rowsC (pe_rowC (1, 1) rfl rfl) (pa_rowsC (pe_rowC (2, 1) rfl rfl) pa_rowsC_nil))) (by decide)) (pa_opsC (pe_opC (pa_rowsC (pe_rowC (0, 2) rfl rfl) (pa_rowsC (pe_rowC (1, 2) rfl rfl) (pa_rowsC (pe_rowC (2, 2) rfl rfl) pa_rowsC_nil))) (by decide)) pa_opsC_nil)) (by decide)) pa_tabsC_nil) (by decide))))
      (pss_cons (ps_set (i := 1) scKnown.nd rfl (Or.inl rfl) (pe_catN 1 (pv 1) (pe_lTab (pa_tabsC (pe_tabC (pa_opsC (pe_opC (pa_rowsC (pe_rowC (0, 1) rfl rfl) (pa_rowsC (pe_rowC (1, 2) rfl rfl) (pa_rowsC (pe_rowC (2, 0) rfl rfl) pa_rowsC_nil))) (by decide)) pa_opsC_nil) (by decide)) (pa_tabsC (pe_tabC (pa_opsC (pe_opC (pa_rowsC (pe_rowC (0, 1) rfl rfl) (pa_rowsC (pe_rowC (0, 0) rfl rfl) pa_rowsC_nil)) (by decide)) pa_opsC_nil) (by decide)) pa_tabsC_nil)) (by decide))))
      (pss_cons (ps_set (i := 1) scKnown.nd rfl (Or.inl rfl) (pe_catN 1 (pv 1) (pe_lTab (pa_tabsC (pe_tabC (pa_opsC (pe_opC (pa_rowsC (pe_rowC (0, 1) rfl rfl) (pa_rowsC (pe_rowC (0, 1) rfl rfl) (pa_rowsC (pe_rowC (0, 2) rfl rfl) pa_rowsC_nil))) (by decide)) (pa_opsC (pe_opC (pa_rowsC (pe_rowC (0, 2) rfl rfl) (pa_rowsC (pe_rowC (0, 1) rfl rfl) (pa_rowsC (pe_rowC (0, 2) rfl rfl) pa_rowsC_nil))) (by decide)) pa_opsC_nil)) (by decide)) pa_tabsC_nil) (by decide))))
      (pss_cons (ps_set (i := 1) scKnown.nd rfl (Or.inl rfl) (pe_catN 1 (pv 1) (pe_lTab (pa_tabsC (pe_tabC (pa_opsC (pe_opC (pa_rowsC (pe_rowC (0, 1) rfl rfl) (pa_rowsC (pe_rowC (0, 2) rfl rfl) (pa_rowsC (pe_rowC (0, 3) rfl rfl) (pa_rowsC (pe_rowC (0, 3) rfl rfl) pa_rowsC_nil)))) (by decide)) (pa_opsC (pe_opC (pa_rowsC (pe_rowC (1, 0) rfl rfl) (pa_rowsC (pe_rowC (1, 0) rfl rfl) (pa_rowsC (pe_rowC (1, 0) rfl rfl) (pa_rowsC (pe_rowC (1, 0) rfl rfl) pa_rowsC_nil)))) (by decide)) pa_opsC_nil)) (by decide)) pa_tabsC_nil) (by decide))))
      (pss_one (ps_ret (pe_ix ix_list (pv 1) (pe_op op_mod (pe_ix ix_list (pv 0) pe_int (fun _ _ => rfl)) pe_int) (fun _ _ => rfl)))))))))), ?_⟩
    intro l0 H0 s0 g0
    refine ⟨l0, _, rfl, g0, by decide, fun l1 H1 s1 g1 => ?_⟩
    refine ⟨l1, _, rfl, g1, by decide, fun l2 H2 s2 g2 => ?_⟩
    refine ⟨l2, _, rfl, g2, by decide, fun l3 H3 s3 g3 => ?_⟩
    refine ⟨l3, _, rfl, g3, by decide, fun l4 H4 s4 g4 => ?_⟩
    refine ⟨l4, _, rfl, g4, by decide, fun l5 H5 s5 g5 => ?_⟩
    have hs : Same H H5 := s0.trans (s1.trans (s2.trans (s3.trans (s4.trans s5))))
    have g : LTab K H5 l5 known := g5
    obtain ⟨ts, e1, g1⟩ := g
    obtain ⟨j, ej, hj⟩ := rest_nat (ms.getD 0 0) (show 0 < 8 by decide)
    have hk := get_getD [] (show j < known.length by rw [known_length]; exact hj)
    obtain ⟨t, ht, hT⟩ := prd_get g1 hk
    obtain ⟨k, hG⟩ := known_good _ (List.mem_of_getElem? hk)
    refine ⟨_, rfl, _, rfl, a, _, _, _, rfl, rfl, hs.seq hS, int_at hlen, _, _, rfl, rfl, (by show (0 : Int) < 8; decide), l5, _, _, V.ref t, rfl, rfl, SqL.of e1, ?_, q t _ k H5 hG hT hs⟩
    show atI (ts.map V.ref) (ms.getD 0 0 % ((8 : Nat) : Int)) = some (V.ref t)
    rw [ej]
    exact at_map ht
theorem scLRows : FnScope ["_law_d", "_law_many", "_law_answers", "_law_k"] ["_law_d", "_law_many"] (defScope sLRows) := ⟨rfl, rfl, rfl, by decide +kernel, rfl, by decide +kernel, by decide +kernel⟩
theorem ok_lrows {f : Addr} {fd : FuncData} (F : Fun K "_law_rows" "_law_rows" sLRows f fd) (B : Blt mg) : FnOk P w K mg base CX0 1 f fd ["_law_d", "_law_many"] (spLRows K) := by
  refine F.ok scLRows (fun vs H Q E h => ?_) (fun cdv A outer s H vs Q E hr h => ?_)
  · obtain ⟨a, ms, k, rfl, _⟩ := h
    rfl
  · obtain ⟨a, ms, k, rfl, hS, hlen, k1, k5, q⟩ := h
    refine ⟨_, pss_cons (ps_set (i := 2) scLRows.nd rfl (Or.inr rfl) (pe_ix ix_list (pe_lst (pa_cons pe_int (pa_cons pe_int (pa_cons pe_int pa_nil)))) (pe_op op_mod (pe_ix ix_list (pv 0) pe_int (fun _ _ => rfl)) pe_int) (fun _ _ => rfl)))
      (pss_one (ps_ret (pe_callTy call_tuple_of (by rfl) B.tuple (by decide +kernel) (pa_cons (pe_lc (own := [("_law_k", 3)]) (g := gName 3) (tt := tYes) rfl scLRows.nd (pi_range1 rfl B.range (pa_cons (pv 1) pa_nil))
        (blkOk_by (own := [("_law_k", 3)]) (N := ["_law_d", "_law_many", "_law_answers", "_law_k"]) (sc := defScope sLRows) (by decide +kernel))
        (fun _ _ _ _ _ => pg_name (i := 3) scLRows.nd rfl (.inl rfl)) (fun _ _ _ _ _ => pts_nil)
        (fun _ _ _ _ _ => pe_tup (pa_cons (pe_op op_mod (pe_ix (r := rIxL K) ix_list (pv 0) (pe_op op_add pe_int (pv 3)) (fun _ _ => rfl)) (pv 2))
          (pa_cons (pe_op op_mod (pe_op op_fdiv (pe_ix (r := rIxL K) ix_list (pv 0) (pe_op op_add pe_int (pv 3)) (fun _ _ => rfl)) pe_int) (pv 1)) pa_nil)))) pa_nil)))), ?_⟩
    refine ⟨(by show 3 ≤ sizeLine; decide), fun x0 hx0 => ?_⟩
    have s0 : Same H (upd H x0 (.lst [.int 1, .int 2, .int 10])) := same_new hx0
    obtain ⟨j, ej, hj⟩ := rest_nat (ms.getD 0 0) (show 0 < 3 by decide)
    have hans : ∃ an : Nat, ([V.int 1, V.int 2, V.int 10] : List V)[j]? = some (nv an) ∧ 1 ≤ an ∧ an ≤ 10 := by
      match j, hj with
      | 0, _ => exact ⟨1, rfl, by decide, by decide⟩
      | 1, _ => exact ⟨2, rfl, by decide, by decide⟩
      | 2, _ => exact ⟨10, rfl, by decide, by decide⟩
    obtain ⟨an, han, an1, an10⟩ := hans
    refine ⟨_, rfl, a, _, _, _, rfl, rfl, s0.seq hS, int_at (show 0 < ms.length by omega), _, _, rfl, rfl, (by show (0 : Int) < 3; decide), x0, _, _, nv an, rfl, rfl, SqL.of upd_same, ?_, ?_⟩
    · show atI _ (ms.getD 0 0 % ((3 : Nat) : Int)) = some (nv an)
      rw [ej]
      exact atI_nat han
    refine ⟨_, rfl, (k : Int), rfl, by omega, by omega, fun D hD => ?_⟩
    have ek : ((k : Int)).toNat = k := by omega
    rw [ek]
    refine lc_range (lo := 0) (n := k) (fun i H' => Same (upd H x0 (.lst [.int 1, .int 2, .int 10])) H' ∧ ∃ (qs : List Addr) (r : List (Nat × Nat)), H' D = some (.lst (qs.map V.ref)) ∧ Paired (RowAt K H') qs r ∧ r.length = i ∧ ∀ c ∈ r, c.1 ≤ 9 ∧ c.2 < k)
      ⟨same_new hD, [], [], upd_same, .nil, rfl, fun c hc => nomatch hc⟩ ?_ ?_
    · rintro i H1 hi ⟨s1, qs, r, hL, hP, hrl, hrc⟩
      have hms : 1 + i < ms.length := by omega
      have e1 : (1 : Int) + (0 + (i : Int)) = ((1 + i : Nat) : Int) := by omega
      obtain ⟨p1, ep1, hp1⟩ := rest_nat (ms.getD (1 + i) 0) (show 0 < an by omega)
      obtain ⟨p2, ep2, hp2⟩ := rest_nat (ms.getD (1 + i) 0 / 10) (show 0 < k by omega)
      have hSa := s1.seq (s0.seq hS)
      refine ⟨rfl, ?_⟩
      refine ⟨_, rfl, _, rfl, _, _, rfl, rfl, a, _, _, V.int (ms.getD (1 + i) 0), rfl, rfl, hSa, (by rw [e1]; exact int_at hms), _, rfl, _, _, rfl, rfl, (by show (0 : Int) < (an : Int); omega), _, rfl, _, rfl, _, _, rfl, rfl, a, _, _, V.int (ms.getD (1 + i) 0), rfl, rfl, hSa, (by rw [e1]; exact int_at hms), _, _, rfl, rfl, ⟨by decide, by decide⟩, _, rfl, _, _, rfl, rfl, (by show (0 : Int) < (k : Int); omega),
        (by show 2 ≤ sizeLine; decide), fun t ht => ?_⟩
      dsimp only
      rw [ep1, ep2]
      have s2 : Same H1 (upd H1 t (.tup [.int (p1 : Int), .int (p2 : Int)])) := same_new ht
      refine ⟨_, s2 _ _ hL, by rw [List.length_map, prd_len hP]; exact small1000 (by omega), ?_⟩
      have m := one_mts (s2 _ _ hL)
      refine ⟨fun b o e => ?_, qs ++ [t], r ++ [(p1, p2)], by rw [upd_same, List.map_append]; rfl, ?_, by rw [List.length_append, hrl]; rfl, fun c hc => ?_⟩
      · rw [upd_ne (ne_of_none e hD)]
        exact s2 _ _ (s1 b o e)
      · refine prd_snoc (prd_map (fun a c e => SqT.but (But.upd (by simp)) m (SqT.same s2 e)) hP) ?_
        exact SqT.but (But.upd (by simp)) m (SqT.of (xs := [nv p1, nv p2]) upd_same)
      · rcases List.mem_append.mp hc with z | z
        · exact hrc c z
        · rw [List.mem_singleton.mp z]
          exact ⟨by show p1 ≤ 9; omega, hp2⟩
    · rintro H1 ⟨s1, qs, r, hL, hP, hrl, hrc⟩
      refine ⟨D, _, rfl, .inl ⟨SqL.of hL, fun o ho => ?_⟩⟩
      have s2 : Same H1 (upd H1 o (.tup (qs.map V.ref))) := same_new ho
      exact q o r _ hrl hrc ⟨qs, SqT.of upd_same, prd_map (fun a c e => SqT.same s2 e) hP⟩ (s0.trans (s1.trans s2))
theorem scTable : FnScope ["_law_d", "_law_most_stands", "_law_most_operations", "_law_many", "_law_k"] ["_law_d", "_law_most_stands", "_law_most_operations"] (defScope sTable) := ⟨rfl, rfl, rfl, by decide +kernel, rfl, by decide +kernel, by decide +kernel⟩
theorem ok_table {f f1 f2 : Addr} {fd fd1 fd2 : FuncData} (F : Fun K "_law_table" "_law_table" sTable f fd) (B : Blt mg) (G1 : Cal P w K mg base 1 "_law_known" f1 fd1 ["_law_d"] (spKnown K)) (G2 : Cal P w K mg base 1 "_law_rows" f2 fd2 ["_law_d", "_law_many"] (spLRows K)) :
    FnOk P w K mg base CX0 2 f fd ["_law_d", "_law_most_stands", "_law_most_operations"] (spTable K) := by
  refine F.ok scTable (fun vs H Q E h => ?_) (fun cdv A outer s H vs Q E hr h => ?_)
  · obtain ⟨a, ms, rfl, _⟩ := h
    rfl
  · obtain ⟨a, ms, rfl, hS, hlen, q⟩ := h
    refine ⟨_, pss_cons (ps_if (pt_cmpR op_lt (pe_op op_mod (pe_ix ix_list (pv 0) pe_int (fun _ _ => rfl)) pe_int) pe_int (nomark _))
        (pss_one (ps_ret (pe_call G1.ok hr rfl G1.mgf G1.kp G1.b .nil pass0 (pa_cons (pe_slice sl_list (pv 0) (po_some pe_int) po_none) pa_nil)))) pss_nil)
      (pss_cons (ps_set (i := 3) scTable.nd rfl (Or.inr rfl) (pe_op op_add pe_int (pe_op op_mod (pe_ix ix_list (pv 0) pe_int (fun _ _ => rfl)) (pv 1))))
      (pss_one (ps_ret (pe_callTy call_tuple_of (by rfl) B.tuple (by decide +kernel) (pa_cons (pe_lc (own := [("_law_k", 4)]) (g := gName 4) (tt := tYes) rfl scTable.nd
        (pi_range1 rfl B.range (pa_cons (pe_op op_add pe_int (pe_op op_mod (pe_ix ix_list (pv 0) pe_int (fun _ _ => rfl)) (pv 2))) pa_nil))
        (blkOk_by (own := [("_law_k", 4)]) (N := ["_law_d", "_law_most_stands", "_law_most_operations", "_law_many", "_law_k"]) (sc := defScope sTable) (by decide +kernel))
        (fun _ _ _ _ _ => pg_name (i := 4) scTable.nd rfl (.inl rfl)) (fun _ _ _ _ _ => pts_nil)
        (fun _ _ _ _ _ => pe_call G2.ok hr rfl G2.mgf G2.kp G2.b .nil pass0 (pa_cons (pe_slice (r := rSlL K) sl_list (pv 0) (po_some (pe_op op_add pe_int (pe_op op_mul pe_int (pv 4)))) po_none) (pa_cons (pv 3) pa_nil)))) pa_nil))))), ?_⟩
    refine ⟨_, rfl, a, _, _, _, rfl, rfl, hS, int_at (i := 0) (by omega), _, _, rfl, rfl, (by show (0 : Int) < 5; decide), _, _, rfl, rfl, _, rfl, ited (fun e => ?_) fun e => ?_⟩
    · refine ⟨_, rfl, _, rfl, a, _, rfl, hS, fun sl hsl => ?_⟩
      have e1 : cutV (ms.map V.int) (some 1) none = (ms.drop 1).map V.int := by
        have := cut_drop (ms.map V.int) 1 (by rw [List.length_map]; omega)
        rw [← List.map_drop] at this
        exact this
      rw [e1]
      have s1 : Same H (upd H sl (.lst ((ms.drop 1).map V.int))) := same_new hsl
      exact ⟨sl, ms.drop 1, rfl, SqL.of upd_same, by rw [List.length_drop]; omega, fun t T k H' g hT s2 => q t T k H' g hT (s1.trans s2)⟩
    · obtain ⟨j, ej, hj⟩ := rest_nat (ms.getD 1 0) (show 0 < 5 by decide)
      obtain ⟨o, eo, ho⟩ := rest_nat (ms.getD 2 0) (show 0 < 4 by decide)
      refine ⟨_, rfl, a, _, _, _, rfl, rfl, hS, int_at (i := 1) (by omega), _, rfl, _, _, rfl, rfl, (by show (0 : Int) < 5; decide), _, _, rfl, rfl, ?_⟩
      dsimp only
      have ek : (1 : Int) + ms.getD 1 0 % 5 = ((1 + j : Nat) : Int) := by
        have : ms.getD 1 0 % 5 = (j : Int) := ej
        omega
      rw [ek]
      refine ⟨_, rfl, a, _, _, _, rfl, rfl, hS, int_at (i := 2) (by omega), _, rfl, _, _, rfl, rfl, (by show (0 : Int) < 4; decide), _, _, rfl, rfl, 1 + ms.getD 2 0 % 4, rfl, by have : ms.getD 2 0 % 4 = (o : Int) := eo; omega, by have : ms.getD 2 0 % 4 = (o : Int) := eo; omega, fun D hD => ?_⟩
      have en : (1 + ms.getD 2 0 % 4).toNat = 1 + o := by
        have : ms.getD 2 0 % 4 = (o : Int) := eo
        omega
      rw [en]
      refine lc_range (lo := 0) (n := 1 + o) (fun i H' => Same H H' ∧ ∃ (os : List Addr) (T : Tb), H' D = some (.lst (os.map V.ref)) ∧ Paired (OpAt K H') os T ∧ T.length = i ∧ ∀ r ∈ T, r.length = 1 + j ∧ ∀ c ∈ r, c.1 ≤ 9 ∧ c.2 < 1 + j)
        ⟨same_new hD, [], [], upd_same, .nil, rfl, fun c hc => nomatch hc⟩ ?_ ?_
      · rintro i H1 hi ⟨s1, os, T, hL, hP, hTl, hTr⟩
        refine ⟨rfl, ?_⟩
        refine ⟨_, rfl, _, rfl, _, _, rfl, rfl, .inl ⟨by decide, by decide⟩, _, _, rfl, rfl, _, rfl, a, _, rfl, s1.seq hS, fun sl hsl => ?_⟩
        have e3 : (3 : Int) + 6 * (0 + (i : Int)) = ((3 + 6 * i : Nat) : Int) := by omega
        have e1 : cutV (ms.map V.int) (some (3 + 6 * (0 + (i : Int)))) none = (ms.drop (3 + 6 * i)).map V.int := by
          rw [e3, cut_drop _ _ (by rw [List.length_map]; omega), ← List.map_drop]
        rw [e1]
        have s2 : Same H1 (upd H1 sl (.lst ((ms.drop (3 + 6 * i)).map V.int))) := same_new hsl
        refine ⟨_, rfl, sl, ms.drop (3 + 6 * i), 1 + j, rfl, SqL.of upd_same, by rw [List.length_drop]; omega, by omega, by omega, fun p r H2 hrl hrc hO s3 => ?_⟩
        have hL2 := s3 _ _ (s2 _ _ hL)
        refine ⟨_, hL2, by rw [List.length_map, prd_len hP]; exact small1000 (by omega), ?_⟩
        have m := one_mts hL2
        refine ⟨fun b u e => ?_, os ++ [p], T ++ [r], by rw [upd_same, List.map_append]; rfl, ?_, by rw [List.length_append, hTl]; rfl, fun r' hr' => ?_⟩
        · rw [upd_ne (ne_of_none e hD)]
          exact s3 _ _ (s2 _ _ (s1 b u e))
        · refine prd_snoc (prd_map (fun a c e => (e.same (s2.trans s3)).imp fun _ _ => SqT.but (But.upd (by simp)) m) hP) (hO.imp fun _ _ => SqT.but (But.upd (by simp)) m)
        · rcases List.mem_append.mp hr' with z | z
          · exact hTr r' z
          · rw [List.mem_singleton.mp z]
            exact ⟨hrl, hrc⟩
      · rintro H1 ⟨s1, os, T, hL, hP, hTl, hTr⟩
        refine ⟨D, _, rfl, .inl ⟨SqL.of hL, fun t ht => ?_⟩⟩
        have s2 : Same H1 (upd H1 t (.tup (os.map V.ref))) := same_new ht
        exact q t T (1 + j) _ ⟨by omega, by omega, by omega, by omega, hTr⟩ ⟨os, SqT.of upd_same, prd_map (fun a c e => e.same s2) hP⟩ (s1.trans s2)
theorem scSame : FnScope ["_law_found", "_law_due", "_law_k"] ["_law_found", "_law_due"] (defScope sSame) := ⟨rfl, rfl, rfl, by decide +kernel, rfl, by decide +kernel, by decide +kernel⟩
theorem ok_same {f : Addr} {fd : FuncData} (F : Fun K "_law_same" "_law_same" sSame f fd) (B : Blt mg) : FnOk P w K mg base CX0 1 f fd ["_law_found", "_law_due"] spSame := by
  refine F.ok scSame (fun vs H Q E h => ?_) (fun cdv A outer s H vs Q E hr h => ?_)
  · obtain ⟨x, y, rfl, _⟩ := h
    rfl
  · obtain ⟨x, y, rfl, q⟩ := h
    refine ⟨_, pss_cons (ps_if (pt_cmp (pc_isN (pv 1))) pss_never pss_nil)
      (pss_cons (ps_if (pt_val (pe_callB call_isiT (by rfl) B.isinstance (by decide +kernel) (pa_cons (pv 1) (pa_cons (pe_tup (pa_cons (pe_bltn (v := .ty "list") (u := .type "list") (by rfl) B.list (by decide +kernel) rfl) (pa_cons (pe_bltn (v := .ty "tuple") (u := .type "tuple") (by rfl) B.tuple (by decide +kernel) rfl) pa_nil))) pa_nil)))) pss_never pss_nil)
      (pss_cons (ps_if (PW.pt (pw_or (pt_cmpR op_ne (pe_callB call_isi (by rfl) B.isinstance (by decide +kernel) (pa_cons (pv 0) (pa_cons (pe_bltn (v := .ty "bool") (u := .type "bool") (by rfl) B.bool (by decide +kernel) rfl) pa_nil))) (pe_callB call_isi (by rfl) B.isinstance (by decide +kernel) (pa_cons (pv 1) (pa_cons (pe_bltn (v := .ty "bool") (u := .type "bool") (by rfl) B.bool (by decide +kernel) rfl) pa_nil))) (nomark _))
        (pw_or1 (pt_cmpR op_ne (pe_callB call_isi (by rfl) B.isinstance (by decide +kernel) (pa_cons (pv 0) (pa_cons (pe_bltn (v := .ty "str") (u := .type "str") (by rfl) B.str (by decide +kernel) rfl) pa_nil))) (pe_callB call_isi (by rfl) B.isinstance (by decide +kernel) (pa_cons (pv 1) (pa_cons (pe_bltn (v := .ty "str") (u := .type "str") (by rfl) B.str (by decide +kernel) rfl) pa_nil))) (nomark _))))) pss_never pss_nil)
      (pss_one (ps_ret (pe_and (pe_cmpR op_eq (pe_callB call_isi (by rfl) B.isinstance (by decide +kernel) (pa_cons (pv 0) (pa_cons (pe_bltn (v := .ty "int") (u := .type "int") (by rfl) B.int (by decide +kernel) rfl) pa_nil))) (pe_callB call_isi (by rfl) B.isinstance (by decide +kernel) (pa_cons (pv 1) (pa_cons (pe_bltn (v := .ty "int") (u := .type "int") (by rfl) B.int (by decide +kernel) rfl) pa_nil))) (nomark _))
        (pe_one (pe_cmpR op_eq (pv 0) (pv 1) (nomark _)))))))), ?_⟩
    refine ⟨_, rfl, _, rfl, itedF (fun z => by cases z) ?_⟩
    refine ⟨_, rfl, (by show 2 ≤ sizeLine; decide), fun tp htp => ?_⟩
    refine ⟨_, tp, _, _, [.type "list", .type "tuple"], false, rfl, upd_same, .cons (.ty "list") (.cons (.ty "tuple") .nil), .base (.int _),
      kitAny_cons (b := false) (kit_ty (by decide +kernel)) (fun _ => kitAny_cons (b := false) (kit_ty (by decide +kernel)) (fun _ => kitAny_nil) (fun z => nomatch z)) (fun z => nomatch z), _, rfl, iteF ?_⟩
    refine ⟨_, rfl, _, _, _, _, false, rfl, .ty "bool", .base (.int _), kit_ty (by decide +kernel), _, rfl, _, _, _, _, false, rfl, .ty "bool", .base (.int _), kit_ty (by decide +kernel), rfl, _, rfl, iteNS rfl ?_⟩
    refine ⟨_, rfl, _, _, _, _, false, rfl, .ty "str", .base (.int _), kit_ty (by decide +kernel), _, rfl, _, _, _, _, false, rfl, .ty "str", .base (.int _), kit_ty (by decide +kernel), rfl, _, rfl, iteNS rfl ?_⟩
    refine ⟨_, rfl, _, _, _, _, true, rfl, .ty "int", .base (.int _), kit_ty (by decide +kernel), _, rfl, _, _, _, _, true, rfl, .ty "int", .base (.int _), kit_ty (by decide +kernel), rfl, _, rfl, itedT rfl ?_⟩
    refine ⟨_, rfl, _, rfl, rfl, ?_⟩
    have e : decide (V.int x = V.int y) = decide (x = y) := by
      by_cases z : x = y
      · subst z
        simp
      · have n : ¬ V.int x = V.int y := fun e => z (by injection e)
        rw [decide_eq_false n, decide_eq_false z]
    rw [e]
    exact q _ (same_new htp)
end
end Wf

/-! The law. -/
namespace Wf
open PySem L2
abbrev sLaw : Stmt := top 30
/-- at a there stands a list of these naturals -/
def LAt (H : Hp) (a : Addr) (xs : List Nat) : Prop := H a = some (.lst (xs.map nv))
theorem prd_but {H H' : Hp} {M : List Addr} (b : But M H H') : ∀ {as : List Addr} {A : List (List Nat)}, (∀ x ∈ as, x ∉ M) → Paired (LAt H) as A → Paired (LAt H') as A
  | _, _, _, .nil => .nil
  | _, _, n, .cons r t => .cons (b _ _ r (n _ (List.mem_cons_self ..))) (prd_but b (fun x hx => n x (List.mem_cons_of_mem _ hx)) t)
theorem prd_upd {H : Hp} {a : Addr} {ys : List Nat} : ∀ {as : List Addr} {A : List (List Nat)} {h : Nat}, as.Nodup → as[h]? = some a → Paired (LAt H) as A → Paired (LAt (upd H a (.lst (ys.map nv)))) as (A.set h ys)
  | _, _, h, _, e, .nil => by simp at e
  | b :: bs, X :: Xs, 0, nd, e, .cons r t => by
    have e' : b = a := by simpa using e
    subst e'
    refine .cons upd_same (prd_but (M := [b]) (But.upd (by simp)) (fun x hx z => ?_) t)
    rw [List.mem_singleton.mp z] at hx
    exact (List.nodup_cons.mp nd).1 hx
  | b :: bs, X :: Xs, h + 1, nd, e, .cons r t => by
    have e' : bs[h]? = some a := by simpa using e
    have n : b ≠ a := fun z => (List.nodup_cons.mp nd).1 (by rw [z]; exact List.mem_of_getElem? e')
    exact .cons (Eq.trans (upd_ne n) r) (prd_upd (List.nodup_cons.mp nd).2 e' t)
/-- the law's lists stand apart -/
structure Sep (L : RL) (as rs : List Addr) (nu ao ro : Addr) : Prop where
  asN : as.Nodup
  rsN : rs.Nodup
  mA : ∀ x ∈ L.ms, ∀ a ∈ as, x ≠ a
  mR : ∀ x ∈ L.ms, ∀ r ∈ rs, x ≠ r
  aR : ∀ a ∈ as, ∀ r ∈ rs, a ≠ r
  mN : ∀ x ∈ L.ms, nu ≠ x ∧ ao ≠ x ∧ ro ≠ x
  aN : ∀ x ∈ as, nu ≠ x ∧ ao ≠ x ∧ ro ≠ x
  rN : ∀ x ∈ rs, nu ≠ x ∧ ao ≠ x ∧ ro ≠ x
/-- what stands while the law runs -/
structure LawAt (K : PySem.W.Frag) (C : Addr) (H : Hp) (L : RL) (n : Nat) (T : Tb) (S : RS) (A R : List (List Nat)) (nu ao ro : Addr) (ms : List Int) (as rs : List Addr) : Prop where
  roll : RollAt K C H L n T S
  num : H nu = some (.lst (ms.map V.int))
  hao : H ao = some (.lst (as.map V.ref))
  hro : H ro = some (.lst (rs.map V.ref))
  hA : Paired (LAt H) as A
  hR : Paired (LAt H) rs R
  sep : Sep L as rs nu ao ro
section
variable {K : PySem.W.Frag} {C : Addr} {H H' : Hp} {L : RL} {n : Nat} {T : Tb} {S S' : RS} {A R : List (List Nat)} {nu ao ro : Addr} {ms : List Int} {as rs : List Addr}
theorem LawAt.same (Z : LawAt K C H L n T S A R nu ao ro ms as rs) (s : Same H H') : LawAt K C H' L n T S A R nu ao ro ms as rs :=
  ⟨Z.roll.same s, s _ _ Z.num, s _ _ Z.hao, s _ _ Z.hro, prd_but (M := []) (But.of s) (fun _ _ z => nomatch z) Z.hA, prd_but (M := []) (But.of s) (fun _ _ z => nomatch z) Z.hR, Z.sep⟩
theorem LawAt.stepped (Z : LawAt K C H L n T S A R nu ao ro ms as rs) (r : RollAt K C H' L n T S') (b : But L.ms H H') : LawAt K C H' L n T S' A R nu ao ro ms as rs :=
  ⟨r, b _ _ Z.num fun z => (Z.sep.mN _ z).1 rfl, b _ _ Z.hao fun z => (Z.sep.mN _ z).2.1 rfl, b _ _ Z.hro fun z => (Z.sep.mN _ z).2.2 rfl, prd_but b (fun x hx z => Z.sep.mA _ z _ hx rfl) Z.hA, prd_but b (fun x hx z => Z.sep.mR _ z _ hx rfl) Z.hR, Z.sep⟩
theorem LawAt.app_asked (Z : LawAt K C H L n T S A R nu ao ro ms as rs) {h : Nat} {a : Addr} {ys : List Nat} (ha : as[h]? = some a) : LawAt K C (upd H a (.lst (ys.map nv))) L n T S (A.set h ys) R nu ao ro ms as rs := by
  have hm := List.mem_of_getElem? ha
  obtain ⟨X, hX1, hX⟩ := prd_get1 Z.hA ha
  have b : But [a] H (upd H a (.lst (ys.map nv))) := But.upd (by simp)
  have n1 : ∀ {x : Addr}, x ≠ a → x ∉ [a] := fun hx z => hx (List.mem_singleton.mp z)
  exact ⟨Z.roll.but b (one_mts hX) fun x hx => n1 (Z.sep.mA x hx a hm), b _ _ Z.num (n1 (Z.sep.aN a hm).1), b _ _ Z.hao (n1 (Z.sep.aN a hm).2.1), b _ _ Z.hro (n1 (Z.sep.aN a hm).2.2), prd_upd Z.sep.asN ha Z.hA,
    prd_but b (fun x hx => n1 fun z => Z.sep.aR a hm x hx z.symm) Z.hR, Z.sep⟩
theorem LawAt.app_told (Z : LawAt K C H L n T S A R nu ao ro ms as rs) {h : Nat} {a : Addr} {ys : List Nat} (ha : rs[h]? = some a) : LawAt K C (upd H a (.lst (ys.map nv))) L n T S A (R.set h ys) nu ao ro ms as rs := by
  have hm := List.mem_of_getElem? ha
  obtain ⟨X, hX1, hX⟩ := prd_get1 Z.hR ha
  have b : But [a] H (upd H a (.lst (ys.map nv))) := But.upd (by simp)
  have n1 : ∀ {x : Addr}, x ≠ a → x ∉ [a] := fun hx z => hx (List.mem_singleton.mp z)
  exact ⟨Z.roll.but b (one_mts hX) fun x hx => n1 (Z.sep.mR x hx a hm), b _ _ Z.num (n1 (Z.sep.rN a hm).1), b _ _ Z.hao (n1 (Z.sep.rN a hm).2.1), b _ _ Z.hro (n1 (Z.sep.rN a hm).2.2),
    prd_but b (fun x hx => n1 fun z => Z.sep.aR x hx a hm z) Z.hA, prd_upd Z.sep.rsN ha Z.hR, Z.sep⟩
/-- a list that is new there changes later -/
theorem LawAt.fresh (Z : LawAt K C H L n T S A R nu ao ro ms as rs) {H1 : Hp} {co : Addr} (hc : H co = none) (s : Same H H1) (m : Mts [co] H1) (b : But [co] H1 H') : LawAt K C H' L n T S A R nu ao ro ms as rs := by
  have Z1 := Z.same s
  have n1 : ∀ {x : Addr} {o : HO}, H x = some o → x ∉ [co] := fun e z => ne_of_none e hc (List.mem_singleton.mp z)
  have n2 : ∀ x ∈ L.ms, x ∉ [co] := fun x hx => by
    obtain ⟨xs, e⟩ := Z.roll.mts x hx
    exact n1 e
  refine ⟨Z1.roll.but b m n2, b _ _ Z1.num (n1 Z.num), b _ _ Z1.hao (n1 Z.hao), b _ _ Z1.hro (n1 Z.hro), prd_but b (fun x hx => ?_) Z1.hA, prd_but b (fun x hx => ?_) Z1.hR, Z.sep⟩
  · obtain ⟨i, hi⟩ := List.getElem?_of_mem hx
    obtain ⟨X, _, hX⟩ := prd_get1 Z.hA hi
    exact n1 hX
  · obtain ⟨i, hi⟩ := List.getElem?_of_mem hx
    obtain ⟨X, _, hX⟩ := prd_get1 Z.hR hi
    exact n1 hX
/-- the hand's two lists -/
theorem LawAt.asked_at (Z : LawAt K C H L n T S A R nu ao ro ms as rs) {h : Nat} (hh : h < A.length) : ∃ a, as[h]? = some a ∧ H a = some (.lst ((A.getD h []).map nv)) := by
  obtain ⟨a, h1, h2⟩ := prd_get Z.hA (get_getD [] hh)
  exact ⟨a, h1, h2⟩
theorem LawAt.told_at (Z : LawAt K C H L n T S A R nu ao ro ms as rs) {h : Nat} (hh : h < R.length) : ∃ a, rs[h]? = some a ∧ H a = some (.lst ((R.getD h []).map nv)) := by
  obtain ⟨a, h1, h2⟩ := prd_get Z.hR (get_getD [] hh)
  exact ⟨a, h1, h2⟩
end
/-- a test that comes out False -/
theorem itf {c : Bool} {A B : Prop} (h : c = false) (hb : B) : if c = true then A else B := by
  rw [h]
  exact iteF hb
theorem prd_rep {H : Hp} : ∀ {as : List Addr}, (∀ a ∈ as, H a = some (.lst [])) → Paired (LAt H) as (List.replicate as.length [])
  | [], _ => .nil
  | a :: as, h => .cons (h a (List.mem_cons_self ..)) (prd_rep fun b hb => h b (List.mem_cons_of_mem _ hb))

def spLaw (K : PySem.W.Frag) : Sp := fun vs H Q _ => ∃ (a : Addr) (ns : List Int), vs = [.ref a] ∧ SqL K H a (ns.map V.int) ∧ ns.length ≤ 63 ∧ ∀ H', Q (.bl true) H'
abbrev nLaw : List Str := ["_law_script", "_law_numbers_here", "_law_table_here", "_law_many", "_law_begin", "_law_roll_here", "_law_hand", "_law_asked", "_law_answers", "_law_k", "_law_d", "_law_told", "_law_stand", "_law_counts", "_law_operation", "_law_answer", "_law_at"]
section
variable {P : Program} {w : World} {K : PySem.W.Frag} {mg : Str → Option Value} {base : Heap} {C : Addr}
theorem scLaw : FnScope nLaw ["_law_script"] (defScope sLaw) := ⟨rfl, rfl, rfl, by decide +kernel, rfl, by decide +kernel, by decide +kernel⟩
/-- the empty lists that a comprehension makes -/
theorem empties {X : Cx} {σ : St} {H : Hp} {D : Addr} {n : Nat} {Qd : Hp → Prop} (hn : n ≤ 4) (hD : H D = none) (hsz : 6 < σ.length)
    (hd : ∀ (as : List Addr) (H' : Hp), Same H H' → H' D = some (.lst (as.map V.ref)) → as.length = n → as.Nodup → D ∉ as → (∀ a ∈ as, H a = none ∧ H' a = some (.lst [])) → Qd H') :
    ∃ W : Nat → Nat → Hp → Prop, (∃ m, W 0 m (upd H D (.lst []))) ∧ ∀ i m H, W i m H →
      ((Itr 0 n).stop i H ∧ Qd H) ∨ ((Itr 0 n).go i H ∧ ∃ Nx : Hp → Prop, (∀ H', Nx H' → ∃ m', m' < m ∧ W (i + 1) m' H') ∧ ∀ x H', (Itr 0 n).yld i H x H' → gName 6 x (wipe σ [6]) H' fun σ2 H2 => wipe σ2 [6] = wipe σ [6] ∧ tYes σ2 H2 fun b H3 =>
        if b = true then tLst tNil σ2 H3 fun y H4 => ∃ acc, H4 D = some (.lst acc) ∧ acc.length < sizeLine ∧ Nx (upd H4 D (.lst (acc ++ [y]))) else Nx H3) := by
  refine lc_range (lo := 0) (n := n) (fun i H' => Same H H' ∧ ∃ as : List Addr, H' D = some (.lst (as.map V.ref)) ∧ as.length = i ∧ as.Nodup ∧ D ∉ as ∧ ∀ a ∈ as, H a = none ∧ H' a = some (.lst []))
    ⟨same_new hD, [], upd_same, rfl, List.nodup_nil, (by simp), fun a ha => nomatch ha⟩ ?_ ?_
  · rintro i H1 hi ⟨s1, as, hL, hl, nd, nD, hA⟩
    refine ⟨?_, ?_⟩
    · show List.set (List.set (List.set σ 6 none) 6 _) 6 none = List.set σ 6 none
      rw [List.set_set, List.set_set]
    · refine ⟨Nat.zero_le _, fun l hl1 => ?_⟩
      have s2 : Same H1 (upd H1 l (.lst [])) := same_new hl1
      have nlD : D ≠ l := ne_of_none hL hl1
      have nla : ∀ a ∈ as, a ≠ l := fun a ha => ne_of_none (hA a ha).2 hl1
      refine ⟨_, s2 _ _ hL, by rw [List.length_map]; exact small1000 (by omega), fun b o e => ?_, as ++ [l], by rw [upd_same, List.map_append]; rfl, by rw [List.length_append, hl]; rfl, ?_, ?_, fun a ha => ?_⟩
      · rw [upd_ne (ne_of_none e hD)]
        exact s2 _ _ (s1 b o e)
      · rw [List.nodup_append]
        refine ⟨nd, by simp, fun a ha b hb => ?_⟩
        rw [List.mem_singleton.mp hb]
        exact nla a ha
      · intro z
        rcases List.mem_append.mp z with z | z
        · exact nD z
        · exact nlD (List.mem_singleton.mp z)
      · rcases List.mem_append.mp ha with z | z
        · refine ⟨(hA a z).1, ?_⟩
          rw [upd_ne (fun e => nD (by rw [← e]; exact z))]
          exact s2 _ _ (hA a z).2
        · rw [List.mem_singleton.mp z]
          refine ⟨s1.free hl1, ?_⟩
          rw [upd_ne nlD.symm, upd_same]
  · rintro H1 ⟨s1, as, hL, hl, nd, nD, hA⟩
    exact hd as H1 s1 hL hl nd nD hA
theorem ok_law {f fN fT fI fP fA fS fR fM : Addr} {fd fdN fdT fdI fdP fdA fdS fdR fdM : FuncData} {g : List Value → List Value → List Value} (F : Fun K "law" "law" sLaw f fd) (B : Blt mg) (X : RTxt K C) (mgC : mg "Roll" = some (.ref C)) (M : Mk K C fI)
    (GN : Cal P w K mg base 1 "_law_numbers" fN fdN ["_law_script", "_law_many"] (spNumbers K)) (GT : Cal P w K mg base 2 "_law_table" fT fdT ["_law_d", "_law_most_stands", "_law_most_operations"] (spTable K))
    (GI : FnOk P w K mg base CX0 5 fI fdI ["self", "table", "many", "start"] (spInit K C)) (kb : KBn K fdI ["self", "table", "many", "start"] 3 ["start"] g (fun vs zs => vs ++ ([] ++ zs)))
    (GP : Mth P w K mg base C 2 "pending" fP fdP ["self", "hand"] (spPend K C)) (GA : Mth P w K mg base C 2 "ask" fA fdA ["self", "hand", "operation"] (spAsk K C)) (GS : Mth P w K mg base C 3 "step" fS fdS ["self", "hand"] (spStep K C))
    (GR : Mth P w K mg base C 1 "rows" fR fdR ["self"] (spRows K C)) (GM : Cal P w K mg base 1 "_law_same" fM fdM ["_law_found", "_law_due"] spSame) : FnOk P w K mg base CX0 7 f fd ["_law_script"] (spLaw K) := by
  refine F.ok scLaw (fun vs H Q E h => ?_) (fun cdv Ar outer s H vs Q E hr h => ?_)
  · obtain ⟨a, ns, rfl, _⟩ := h
    rfl
  · obtain ⟨a, ns, rfl, hS, hlen, q⟩ := h
    refine ⟨_, pss_cons (ps_set (i := 1) scLaw.nd rfl (Or.inl rfl) (pe_call GN.ok (hr.mono (by decide)) rfl GN.mgf GN.kp GN.b .nil pass0 (pa_cons (pv 0) (pa_cons pe_int pa_nil))))
      (pss_cons (ps_set (i := 2) scLaw.nd rfl (Or.inl rfl) (pe_call GT.ok (hr.mono (by decide)) rfl GT.mgf GT.kp GT.b .nil pass0 (pa_cons (pv 1) (pa_cons pe_int (pa_cons pe_int pa_nil)))))
      (pss_cons (ps_set (i := 3) scLaw.nd rfl (Or.inl rfl) (pe_op op_add pe_int (pe_op op_mod (pe_ix ix_list (pv 1) pe_int (fun _ _ => rfl)) pe_int)))
      (pss_cons (ps_set (i := 4) scLaw.nd rfl (Or.inl rfl) (pe_op op_mod (pe_ix ix_list (pv 1) pe_int (fun _ _ => rfl)) (pe_callB call_len_seq (by rfl) B.len PySem.boot_len (pa_cons (pe_ix ix_tup (pv 2) pe_int (fun _ _ => rfl)) pa_nil))))
      (pss_cons (ps_set (i := 5) scLaw.nd rfl (Or.inl rfl) (pe_makeK M GI hr rfl mgC kb pass0 (pa_cons (pv 2) (pa_cons (pv 3) pa_nil)) (pk_cons (pv 4) pk_nil)))
      (pss_cons (ps_setLc (i := 7) (own := [("_law_hand", 6)]) (g := gName 6) (tt := tYes) rfl scLaw.nd rfl rfl (sw_true rfl rfl rfl (by decide +kernel)) (pi_range1 rfl B.range (pa_cons (pv 3) pa_nil)) (blkOk_by (own := [("_law_hand", 6)]) (N := nLaw) (sc := defScope sLaw) (by decide +kernel))
          (fun _ _ _ _ _ => pg_name (i := 6) scLaw.nd rfl (.inl rfl)) (fun _ _ _ _ _ => pts_nil) (fun _ _ _ _ _ => pe_lst pa_nil))
      (pss_cons (ps_setLc (i := 8) (own := [("_law_hand", 6)]) (g := gName 6) (tt := tYes) rfl scLaw.nd rfl rfl (sw_true rfl rfl rfl (by decide +kernel)) (pi_range1 rfl B.range (pa_cons (pv 3) pa_nil)) (blkOk_by (own := [("_law_hand", 6)]) (N := nLaw) (sc := defScope sLaw) (by decide +kernel))
          (fun _ _ _ _ _ => pg_name (i := 6) scLaw.nd rfl (.inl rfl)) (fun _ _ _ _ _ => pts_nil) (fun _ _ _ _ _ => pe_lst pa_nil))
      (pss_cons (ps_for PassesOwn.never rfl (pi_range1 rfl B.range (pa_cons (pe_op op_mod (pe_ix ix_list (pv 1) pe_int (fun _ _ => rfl)) pe_int) pa_nil)) (pg_name (i := 9) scLaw.nd rfl (Or.inl rfl))
        (pss_cons (ps_set (i := 10) scLaw.nd rfl (Or.inl rfl) (pe_slice sl_list (pv 1) (po_some (pe_op op_add pe_int (pe_op op_mul pe_int (pe_op op_mod (pv 9) pe_int)))) (po_some (pe_op op_add pe_int (pe_op op_mul pe_int (pe_op op_mod (pv 9) pe_int))))))
        (pss_mid (ps_set (i := 6) scLaw.nd rfl (Or.inl rfl) (pe_ifExp (pt_cmpR op_eq (pe_op op_mod (pe_ix ix_list (pv 1) pe_int (fun _ _ => rfl)) pe_int) pe_int (nomark _)) (pe_op op_mod (pe_ix ix_list (pv 10) pe_int (fun _ _ => rfl)) (pv 3))
            (pe_op op_mod (pe_ix ix_list (pv 1) (pe_op op_add pe_int (pe_op op_mod (pe_op op_fdiv (pv 9) pe_int) pe_int)) (fun _ _ => rfl)) (pv 3))))
        (pss_one (ps_if (pt_cmp (pc_isN (pe_meth (pv 5) X.cl GP.me GP.ok (hr.mono (by decide)) GP.b .nil pass0 (pa_cons (pv 6) pa_nil))))
          (pss_cons (ps_expr (pe_bm PySem.F.plainAttrs_list PySem.F.slot_list_append PySem.F.type_list_append mt_append (pe_ix ix_list (pv 7) (pv 6) (fun _ _ => rfl))
              (pa_cons (pe_op op_mod (pe_ix ix_list (pv 10) pe_int (fun _ _ => rfl)) (pe_callB call_len_seq (by rfl) B.len PySem.boot_len (pa_cons (pv 2) pa_nil))) pa_nil)))
            (pss_one (ps_expr (pe_meth (pv 5) X.cl GA.me GA.ok (hr.mono (by decide)) GA.b .nil pass0 (pa_cons (pv 6) (pa_cons (pe_op op_mod (pe_ix ix_list (pv 10) pe_int (fun _ _ => rfl)) (pe_callB call_len_seq (by rfl) B.len PySem.boot_len (pa_cons (pv 2) pa_nil))) pa_nil))))))
          (pss_cons (ps_set (i := 11) scLaw.nd rfl (Or.inl rfl) (pe_meth (pv 5) X.cl GS.me GS.ok (hr.mono (by decide)) GS.b .nil pass0 (pa_cons (pv 6) pa_nil)))
            (pss_one (ps_if (pt_cmp (pc_notN (pv 11)))
              (pss_one (ps_expr (pe_bm PySem.F.plainAttrs_list PySem.F.slot_list_append PySem.F.type_list_append mt_append (pe_ix ix_list (pv 8) (pv 6) (fun _ _ => rfl)) (pa_cons (pv 11) pa_nil)))) pss_nil))))))))
      (pss_cons (ps_set (i := 12) scLaw.nd rfl (Or.inl rfl) (pv 4))
      (pss_cons (ps_set (i := 13) scLaw.nd rfl (Or.inl rfl) (pe_op op_rep (pe_lst (pa_cons pe_int pa_nil)) (pv 3)))
      (pss_cons (ps_for PassesOwn.never rfl (pi_list (pe_meth0 (pv 5) X.cl GR.me GR.ok (hr.mono (by decide)) GR.b .nil pass0)) (pg_tup (by rfl) (pgs_cons (pg_name (i := 6) scLaw.nd rfl (.inl rfl)) (pgs_cons (pg_name (i := 14) scLaw.nd rfl (.inl rfl)) pgs_nil)))
        (pss_cons (ps_asg (pe_ix ix_tup (pe_ix ix_tup (pv 2) (pv 14) (fun _ _ => rfl)) (pv 12) (fun _ _ => rfl)) (pg_tup (by rfl) (pgs_cons (pg_name (i := 15) scLaw.nd rfl (.inl rfl)) (pgs_cons (pg_name (i := 12) scLaw.nd rfl (.inl rfl)) pgs_nil))))
        (pss_cons (ps_set (i := 16) scLaw.nd rfl (Or.inl rfl) (pe_ix ix_list (pv 13) (pv 6) (fun _ _ => rfl)))
        (pss_cons (ps_asg (pe_op op_add (pv 16) pe_int) (pg_sub (pv 13) (pv 6) set_list))
        (pss_cons (ps_if (PW.pt (pw_or (pt_cmpR op_ge (pv 16) (pe_callB call_len_seq (by rfl) B.len PySem.boot_len (pa_cons (pe_ix ix_list (pv 7) (pv 6) (fun _ _ => rfl)) pa_nil)) (nomark _))
            (pw_or1 (pt_cmpR op_ne (pv 14) (pe_ix ix_list (pe_ix ix_list (pv 7) (pv 6) (fun _ _ => rfl)) (pv 16) (fun _ _ => rfl)) (nomark _))))) pss_never pss_nil)
        (pss_one (ps_if (PW.pt (pw_and (pt_cmpR op_lt (pv 16) (pe_callB call_len_seq (by rfl) B.len PySem.boot_len (pa_cons (pe_ix ix_list (pv 8) (pv 6) (fun _ _ => rfl)) pa_nil)) (nomark _))
            (pw_and1 (pt_not (pt_val (pe_call GM.ok (hr.mono (by decide)) rfl GM.mgf GM.kp GM.b .nil pass0 (pa_cons (pe_ix ix_list (pe_ix ix_list (pv 8) (pv 6) (fun _ _ => rfl)) (pv 16) (fun _ _ => rfl)) (pa_cons (pv 15) pa_nil)))))))) pss_never pss_nil)))))))
      (pss_cons (ps_for PassesOwn.never rfl (pi_range1 rfl B.range (pa_cons (pv 3) pa_nil)) (pg_name (i := 6) scLaw.nd rfl (Or.inl rfl))
        (pss_cons (ps_if (PW.pt (pw_or (pt_cmpR op_lt (pe_ix ix_list (pv 13) (pv 6) (fun _ _ => rfl)) (pe_callB call_len_seq (by rfl) B.len PySem.boot_len (pa_cons (pe_ix ix_list (pv 8) (pv 6) (fun _ _ => rfl)) pa_nil)) (nomark _))
            (pw_or1 (pt_cmpR op_notIn_seq (pe_op op_sub (pe_callB call_len_seq (by rfl) B.len PySem.boot_len (pa_cons (pe_ix ix_list (pv 7) (pv 6) (fun _ _ => rfl)) pa_nil)) (pe_callB call_len_seq (by rfl) B.len PySem.boot_len (pa_cons (pe_ix ix_list (pv 8) (pv 6) (fun _ _ => rfl)) pa_nil)))
              (pe_lst (pa_cons pe_int (pa_cons pe_int pa_nil))) (by rfl))))) pss_never pss_nil)
        (pss_one (ps_if (pt_cmpR op_ne (pe_cmp (pc_isN (pe_meth (pv 5) X.cl GP.me GP.ok (hr.mono (by decide)) GP.b .nil pass0 (pa_cons (pv 6) pa_nil))))
            (pe_cmpR op_eq (pe_callB call_len_seq (by rfl) B.len PySem.boot_len (pa_cons (pe_ix ix_list (pv 7) (pv 6) (fun _ _ => rfl)) pa_nil)) (pe_callB call_len_seq (by rfl) B.len PySem.boot_len (pa_cons (pe_ix ix_list (pv 8) (pv 6) (fun _ _ => rfl)) pa_nil)) (nomark _)) (nomark _)) pss_never pss_nil))))
      (pss_one (ps_ret pe_bl))))))))))))), ?_⟩
    -- numbers, table, many, begin
    refine ⟨_, rfl, a, ns, rfl, hS, hlen, fun nu ms H1 hms s1 hnu => ?_⟩
    refine ⟨_, rfl, nu, ms, rfl, SqL.of hnu, hms, fun t T k H2 gT hT s2 => ?_⟩
    have hnu2 := s2 _ _ hnu
    obtain ⟨j, ej, hj⟩ := rest_nat (ms.getD 40 0) (show 0 < 3 by decide)
    refine ⟨_, rfl, nu, _, _, _, rfl, rfl, SqL.of hnu2, int_at (i := 40) (by omega), _, _, rfl, rfl, (by show (0 : Int) < 3; decide), _, _, rfl, rfl, ?_⟩
    dsimp only
    have en : (2 : Int) + ms.getD 40 0 % 3 = ((2 + j : Nat) : Int) := by
      have : ms.getD 40 0 % 3 = (j : Int) := ej
      omega
    rw [en]
    obtain ⟨n, hn, n2, n4⟩ : ∃ n, 2 + j = n ∧ 2 ≤ n ∧ n ≤ 4 := ⟨_, rfl, by omega, by omega⟩
    rw [hn]
    clear en ej hn
    obtain ⟨r0, hr0, hm0, _⟩ := gT.row (op := 0) (s := 0) (by have := gT.ops1; omega) (by have := gT.k1; omega)
    obtain ⟨xs0, o0, hx0, hxl, ha0, hO0⟩ := hT.op hr0
    obtain ⟨qs0, hS0, hP0⟩ := hO0
    have hk0 : (qs0.map V.ref).length = k := by rw [List.length_map, prd_len hP0, (gT.rows _ hm0).1]
    have k1 := gT.k1
    refine ⟨_, rfl, nu, _, _, _, rfl, rfl, SqL.of hnu2, int_at (i := 41) (by omega), _, rfl, t, _, _, _, rfl, rfl, hx0, ha0, o0, _, rfl, .inr hS0, _, _, rfl, rfl, (by rw [hk0]; show (0 : Int) < (k : Int); omega), ?_⟩
    dsimp only
    rw [hk0]
    obtain ⟨b, eb, hb⟩ := rest_nat (ms.getD 41 0) (show 0 < k by omega)
    rw [eb]
    -- the roll
    refine ⟨_, rfl, _, rfl, _, rfl, rfl, rfl, fun x dx nx ndx nex => ?_⟩
    have sx : Same H2 (upd (upd H2 dx (.own x)) x (.ins C dx [])) := fun c o e => by
      rw [upd_ne (ne_of_none e nx), upd_ne (ne_of_none e ndx)]
      exact e
    refine ⟨x, dx, t, T, k, n, b, rfl, upd_same, hT.same sx, gT, n2, n4, hb, fun H3 L e1 e2 fr bx R3 => ⟨rfl, ?_⟩⟩
    subst e1 e2
    have s3 : Same H2 H3 := fun c o e => bx _ _ (sx c o e) fun z => ne_of_none e nx (List.mem_singleton.mp z)
    have hnu3 := s3 _ _ hnu2
    have en' : ((n : Int)).toNat = n := by omega
    -- the two lists of lists
    refine ⟨_, rfl, (n : Int), rfl, by omega, by omega, fun ao hao => ?_⟩
    rw [en']
    refine empties (X := cxOf CX0 P w K mg base nLaw "law" (defScope sLaw) f cdv Ar outer s H E) n4 hao (by show 6 < 17; decide) fun as H4 s4 hao4 hasl asN aoN has => ?_
    refine ⟨_, rfl, (n : Int), rfl, by omega, by omega, fun ro hro => ?_⟩
    rw [en']
    refine empties (X := cxOf CX0 P w K mg base nLaw "law" (defScope sLaw) f cdv Ar outer s H E) n4 hro (by show 6 < 17; decide) fun rs H5 s5 hro5 hrsl rsN roN hrs => ?_
    have hms3 : ∀ x ∈ L.ms, ∃ xs, H3 x = some (.lst xs) := R3.mts
    have hms4 : ∀ x ∈ L.ms, ∃ xs, H4 x = some (.lst xs) := (R3.same s4).mts
    have Z5 : LawAt K C H5 L n T (S0 n b) (List.replicate n []) (List.replicate n []) nu ao ro ms as rs := by
      refine ⟨(R3.same s4).same s5, s5 _ _ (s4 _ _ hnu3), s5 _ _ hao4, hro5, ?_, ?_, ⟨asN, rsN, fun x hx c hc => ?_, fun x hx c hc => ?_, fun c hc r hr' => ?_, fun x hx => ?_, fun x hx => ?_, fun x hx => ?_⟩⟩
      · have := prd_rep (H := H5) (as := as) fun c hc => s5 _ _ (has c hc).2
        rw [hasl] at this
        exact this
      · have := prd_rep (H := H5) (as := rs) fun c hc => (hrs c hc).2
        rw [hrsl] at this
        exact this
      · obtain ⟨ys, e⟩ := hms3 x hx
        exact ne_of_none e (has c hc).1
      · obtain ⟨ys, e⟩ := hms4 x hx
        exact ne_of_none e (hrs c hc).1
      · exact ne_of_none (has c hc).2 (hrs r hr').1
      · obtain ⟨ys, e⟩ := hms3 x hx
        obtain ⟨ys', e'⟩ := hms4 x hx
        refine ⟨fun z => ?_, (ne_of_none e hao).symm, (ne_of_none e' hro).symm⟩
        have hfx := fr x hx
        rw [← z, sx _ _ hnu2] at hfx
        cases hfx
      · exact ⟨ne_of_none hnu3 (has x hx).1, fun z => aoN (by rw [z]; exact hx), (ne_of_none (has x hx).2 hro).symm⟩
      · exact ⟨ne_of_none (s4 _ _ hnu3) (hrs x hx).1, ne_of_none hao4 (hrs x hx).1, fun z => roN (by rw [z]; exact hx)⟩
    have L5 : LInv n T b (S0 n b) (List.replicate n []) (List.replicate n []) := LInv.first
    have hna : n ≠ 0 := by omega
    -- the deeds
    obtain ⟨c, ec, hc⟩ := rest_nat (ms.getD 42 0) (show 0 < 161 by decide)
    have ec' : ms.getD 42 0 % 161 = (c : Int) := ec
    refine ⟨_, rfl, nu, _, _, _, rfl, rfl, SqL.of Z5.num, int_at (i := 42) (by omega), _, _, rfl, rfl, (by show (0 : Int) < 161; decide), ms.getD 42 0 % 161, rfl, by omega, by omega, ?_⟩
    rw [ec']
    have ecn : ((c : Int)).toNat = c := by omega
    rw [ecn]
    refine for_range (lo := 0) (n := c) (fun i σ H' => ∃ (v6 v9 v10 v11 : Option V) (S : RS) (A R : List (List Nat)), σ = [some (.ref a), some (.ref nu), some (.ref L.t), some (nv n), some (nv b), some (.ref L.p), v6, some (.ref ao), some (.ref ro), v9, v10, v11, none, none, none, none, none] ∧
        LawAt K C H' L n T S A R nu ao ro ms as rs ∧ LInv n T b S A R ∧ S.cells.length ≤ i)
      ⟨none, none, none, none, S0 n b, _, _, rfl, Z5, L5, Nat.le_refl _⟩ ?_ ?_
    · rintro i σ H6 hi ⟨v6, v9, v10, v11, S, A, R, rfl, Z, I, hcl⟩
      -- d
      have hq : i % 60 < 60 := Nat.mod_lt _ (by decide)
      refine ⟨_, rfl, _, rfl, _, _, rfl, rfl, (by show (0 : Int) < 60; decide), _, _, rfl, rfl, .inl ⟨by decide, by decide⟩, _, _, rfl, rfl, _, rfl, _, rfl, _, _, rfl, rfl, (by show (0 : Int) < 60; decide), _, _, rfl, rfl, .inl ⟨by decide, by decide⟩, _, _, rfl, rfl, _, rfl, nu, _, rfl, SqL.of Z.num, fun dl hdl => ?_⟩
      obtain ⟨ds, hds, edl⟩ : ∃ ds : List Int, ds.length = 4 ∧ cutV (ms.map V.int) (some (60 + 4 * ((0 + (i : Int)) % 60))) (some (64 + 4 * ((0 + (i : Int)) % 60))) = ds.map V.int := by
        refine ⟨(ms.drop (60 + 4 * (i % 60))).take 4, by rw [List.length_take, List.length_drop]; omega, ?_⟩
        have e60 : (60 : Int) + 4 * ((0 + (i : Int)) % 60) = ((60 + 4 * (i % 60) : Nat) : Int) := by omega
        have e64 : (64 : Int) + 4 * ((0 + (i : Int)) % 60) = ((64 + 4 * (i % 60) : Nat) : Int) := by omega
        rw [e60, e64, cut_mid _ _ _ (by omega) (by rw [List.length_map]; omega), ← List.map_drop, ← List.map_take]
        congr 2
        omega
      rw [edl]
      have s7 : Same H6 (upd H6 dl (.lst (ds.map V.int))) := same_new hdl
      have Z7 := Z.same s7
      -- the hand
      refine ⟨fun σ' H' => ∃ h, h < n ∧ H' = upd H6 dl (.lst (ds.map V.int)) ∧ σ' = [some (.ref a), some (.ref nu), some (.ref L.t), some (nv n), some (nv b), some (.ref L.p), some (nv h), some (.ref ao), some (.ref ro), some (.int (0 + (i : Int))), some (.ref dl), v11, none, none, none, none, none], ?_, ?_⟩
      · refine ⟨_, rfl, nu, _, _, _, rfl, rfl, SqL.of Z7.num, int_at (i := 43) (by omega), _, _, rfl, rfl, (by show (0 : Int) < 2; decide), rfl, _, rfl, ited (fun _ => ?_) fun _ => ?_⟩
        · obtain ⟨h, eh, hh⟩ := rest_nat (ds.getD 0 0) (show 0 < n by omega)
          refine ⟨_, rfl, dl, _, _, _, rfl, rfl, SqL.of upd_same, int_at (i := 0) (by omega), _, rfl, _, _, rfl, rfl, (by show (0 : Int) < (n : Int); omega), ?_⟩
          dsimp only
          rw [eh]
          exact ⟨h, hh, rfl, rfl⟩
        · obtain ⟨h, eh, hh⟩ := rest_nat (ms.getD (44 + i / 7 % 16) 0) (show 0 < n by omega)
          have e44 : (44 : Int) + (0 + (i : Int)) / 7 % 16 = ((44 + i / 7 % 16 : Nat) : Int) := by omega
          refine ⟨_, rfl, _, rfl, _, _, rfl, rfl, ⟨by decide, by decide⟩, _, _, rfl, rfl, (by show (0 : Int) < 16; decide), _, _, rfl, rfl, nu, _, _, V.int (ms.getD (44 + i / 7 % 16) 0), rfl, rfl, SqL.of Z7.num, (by rw [e44]; exact int_at (by omega)), _, rfl, _, _, rfl, rfl, (by show (0 : Int) < (n : Int); omega), ?_⟩
          dsimp only
          rw [eh]
          exact ⟨h, hh, rfl, rfl⟩
      · rintro σ' H' ⟨h, hh, rfl, rfl⟩
        have ha := get_getD none (show h < S.asked.length by rw [I.la]; exact hh)
        obtain ⟨lA, lR⟩ := I.lens hh
        refine ⟨_, rfl, L.p, L.dx, _, rfl, Z7.roll.ob, rf_no L n (by decide +kernel), _, rfl, L, n, h, T, S, S.asked.getD h none, rfl, Z7.roll, hh, ha, _, rfl, ?_⟩
        cases ea : S.asked.getD h none with
        | none =>
          rw [ea] at ha
          refine itedT rfl ?_
          obtain ⟨op, eo, ho⟩ := rest_nat (ds.getD 1 0) (show 0 < T.length by have := gT.ops1; omega)
          obtain ⟨aa, haa, hAa⟩ := Z7.asked_at (h := h) (by rw [I.lA]; exact hh)
          obtain ⟨os, hSt, hPt⟩ := Z7.roll.tab
          have hol : (os.map V.ref).length = T.length := by rw [List.length_map, prd_len hPt]
          refine ⟨_, rfl, _, rfl, ao, _, _, V.ref aa, rfl, rfl, SqL.of Z7.hao, at_map haa, .inl ⟨rfl, _, SqL.of hAa⟩, _, rfl, dl, _, _, _, rfl, rfl, SqL.of upd_same, int_at (i := 1) (by omega), _, rfl, L.t, _, rfl, .inr hSt, _, _, rfl, rfl,
            (by rw [hol]; show (0 : Int) < (T.length : Int); have := gT.ops1; omega), aa, _, _, rfl, rfl, hAa, ?_, ?_⟩
          · rw [List.length_map]
            exact small1000 (by omega)
          dsimp only
          rw [hol, eo]
          have eL : (A.getD h []).map nv ++ [V.int (op : Int)] = (A.getD h [] ++ [op]).map nv := by
            rw [List.map_append]
            rfl
          rw [eL]
          have Z8 := Z7.app_asked (ys := A.getD h [] ++ [op]) haa
          obtain ⟨a6, ha6, hA6⟩ := Z.asked_at (h := h) (by rw [I.lA]; exact hh)
          have ea6 : a6 = aa := Option.some.inj (ha6.symm.trans haa)
          have nda : dl ≠ aa := by
            rw [← ea6]
            exact (ne_of_none hA6 hdl).symm
          have hdl8 : upd (upd H6 dl (.lst (ds.map V.int))) aa (.lst ((A.getD h [] ++ [op]).map nv)) dl = some (.lst (ds.map V.int)) := by rw [upd_ne nda, upd_same]
          obtain ⟨os', hSt', hPt'⟩ := Z8.roll.tab
          have hol' : (os'.map V.ref).length = T.length := by rw [List.length_map, prd_len hPt']
          refine ⟨_, rfl, L.p, L.dx, _, rfl, Z8.roll.ob, rf_no L n (by decide +kernel), _, rfl, _, rfl, dl, _, _, _, rfl, rfl, SqL.of hdl8, int_at (i := 1) (by omega), _, rfl, L.t, _, rfl, .inr hSt', _, _, rfl, rfl,
            (by rw [hol']; show (0 : Int) < (T.length : Int); have := gT.ops1; omega), L, n, h, op, T, S, ?_, Z8.roll, hh, ha, ho, fun H9 R9 b9 => ?_⟩
          · dsimp only
            rw [hol', eo]
            rfl
          · exact ⟨_, _, _, _, askS S h op, A.set h (A.getD h [] ++ [op]), R, rfl, Z8.stepped R9 b9, I.ask hh ho ea, Nat.le_succ_of_le hcl⟩
        | some p =>
          rw [ea] at ha
          refine itedF (fun z => by cases z) ?_
          refine ⟨_, rfl, L.p, L.dx, _, rfl, Z7.roll.ob, rf_no L n (by decide +kernel), _, rfl, L, n, h, p, k, T, S, rfl, Z7.roll, I.wf gT hb, gT, hh, ha, by omega, fun H8 R8 b8 => ?_⟩
          have Z8 := Z7.stepped R8 b8
          have I8 := I.step hh ea
          have hgl : (stepS T n S h).cells.length ≤ i + 1 := Nat.le_trans (grown_length n S h) (Nat.succ_le_succ hcl)
          refine ⟨_, rfl, _, rfl, ?_⟩
          cases es : stepA T n S h with
          | none =>
            rw [es] at I8
            refine iteNS rfl ?_
            exact ⟨_, _, _, _, _, _, _, rfl, Z8, I8, hgl⟩
          | some r =>
            rw [es] at I8
            refine itedN (fun _ => ?_) fun z => by cases z
            obtain ⟨ra, hra, hRa⟩ := Z8.told_at (h := h) (by rw [I.lR]; exact hh)
            refine ⟨_, rfl, _, rfl, ro, _, _, V.ref ra, rfl, rfl, SqL.of Z8.hro, at_map hra, .inl ⟨rfl, _, SqL.of hRa⟩, _, rfl, ra, _, _, rfl, rfl, hRa, ?_, ?_⟩
            · rw [List.length_map]
              exact small1000 (by omega)
            · have eL : (R.getD h []).map nv ++ [ov (some r)] = (R.getD h [] ++ [r]).map nv := by
                rw [List.map_append]
                rfl
              rw [eL]
              exact ⟨_, _, _, _, _, _, _, rfl, Z8.app_told hra, I8, hgl⟩
    · rintro σ H6 ⟨v6, v9, v10, v11, S, A, R, rfl, Z, I, hcl⟩
      -- stand, counts
      refine ⟨_, rfl, ?_⟩
      refine ⟨(by show 1 ≤ sizeLine; decide), fun x1 hx1 => ⟨_, rfl, x1, _, _, rfl, rfl, upd_same, by omega, by omega, ?_, fun co hco => ?_⟩⟩
      · have : ((n : Int)).toNat ≤ 4 := by omega
        exact Nat.le_trans (Nat.mul_le_mul_left 1 this) (by decide)
      have hco6 : H6 co = none := by
        have z : co ≠ x1 := fun e => by
          rw [e, upd_same] at hco
          cases hco
        rw [upd_ne z] at hco
        exact hco
      rw [rep_flat, en']
      have s7 : Same H6 (upd (upd H6 x1 (.lst [V.int 0])) co (.lst (List.replicate n (V.int 0)))) := (same_new hx1).trans (same_new hco)
      have Z7 := Z.same s7
      have hco7 : upd (upd H6 x1 (.lst [V.int 0])) co (.lst (List.replicate n (V.int 0))) co = some (.lst ((List.replicate n 0).map nv)) := by
        rw [upd_same, List.map_replicate]
        rfl
      generalize upd (upd H6 x1 (.lst [V.int 0])) co (.lst (List.replicate n (V.int 0))) = H7 at s7 Z7 hco7 ⊢
      -- the cells
      refine ⟨_, rfl, L.p, L.dx, _, rfl, Z7.roll.ob, rf_no L n (by decide +kernel), L, n, T, S, rfl, Z7.roll, fun l cs H8 hl7 s8 hl hcs => ?_⟩
      have hco8 := s8 _ _ hco7
      have nlc : l ≠ co := (ne_of_none hco7 hl7).symm
      have s68 := s7.trans s8
      have hcsl := prd_len hcs
      refine ⟨l, rfl, ⟨_, SqL.of hl⟩, for_list (K := K) (a := l) (xs := cs.map V.ref) (fun i σ H' => ∃ (v6 v14 v15 v16 : Option V) (ks : List Nat),
          σ = [some (.ref a), some (.ref nu), some (.ref L.t), some (nv n), some (nv b), some (.ref L.p), v6, some (.ref ao), some (.ref ro), v9, v10, v11, some (nv (run T b (S.cells.take i))), some (.ref co), v14, v15, v16] ∧
          But [co] H8 H' ∧ H' co = some (.lst (ks.map nv)) ∧ ks.length = n ∧ ∀ h, h < n → ks.getD h 0 = (pick h (S.cells.take i)).length)
        ⟨v6, none, none, none, List.replicate n 0, rfl, But.refl _ _, hco8, List.length_replicate, fun h hh => getD_of (by rw [List.getElem?_replicate, if_pos hh]; rfl)⟩
        (fun i σ H' _ ⟨_, _, _, _, _, _, b9, _⟩ => SqL.of (b9 _ _ hl (by simp [nlc]))) ?_ ?_⟩
      · rintro i x σ H' hx ⟨w6, w14, w15, w16, ks, rfl, b9, hco9, hkl, hkk⟩
        obtain ⟨q', hq', rfl⟩ : ∃ q', cs[i]? = some q' ∧ x = V.ref q' := by
          rw [List.getElem?_map] at hx
          cases e : cs[i]? with
          | none =>
            rw [e] at hx
            cases hx
          | some q' =>
            rw [e] at hx
            exact ⟨q', rfl, (Option.some.inj hx).symm⟩
        obtain ⟨c, hcc, hRow⟩ := prd_get1 hcs hq'
        have Z9 := Z.fresh hco6 s68 (one_mts hco8) b9
        have hRow9 := SqT.but b9 (one_mts hco8) hRow
        obtain ⟨hc1, hc2⟩ := I.cells c (List.mem_of_getElem? hcc)
        have hst : run T b (S.cells.take i) < k := run_lt gT (n := n) _ _ hb fun d hd => I.cells d (List.mem_of_mem_take hd)
        obtain ⟨r, hr1, hr2, hr3, _, _⟩ := gT.row hc2 hst
        obtain ⟨xs, o, hx1', hx2, hx3, hO⟩ := Z9.roll.tab.op hr1
        obtain ⟨ys, qa, hy1, hy2, hy3⟩ := hO.row hr3
        obtain ⟨hat1, hat2⟩ := I.at_cell hcc
        have hk := get_getD 0 (show c.1 < ks.length by omega)
        have ekk := hkk c.1 hc1
        rw [← ekk] at hat1 hat2
        refine ⟨q', _, rfl, hRow9, rfl, _, _, rfl, _, _, rfl, rfl, ?_⟩
        refine ⟨_, rfl, _, rfl, L.t, _, _, _, rfl, rfl, hx1', hx3, _, rfl, o, _, _, _, rfl, rfl, hy1, hy2, qa, _, rfl, hy3, rfl, _, _, rfl, _, _, rfl, rfl, ?_⟩
        refine ⟨_, rfl, _, rfl, co, _, _, _, rfl, rfl, SqL.of hco9, at_mapf hk, ?_⟩
        refine ⟨_, rfl, _, _, rfl, rfl, _, rfl, _, rfl, co, _, _, c.1, rfl, rfl, hco9, ix_mapf hk, ?_⟩
        dsimp only
        have e1 : ((ks.getD c.1 0 : Nat) : Int) + 1 = ((ks.getD c.1 0 + 1 : Nat) : Int) := by omega
        rw [e1]
        have eK : (ks.map nv).set c.1 (V.int ((ks.getD c.1 0 + 1 : Nat) : Int)) = (ks.set c.1 (ks.getD c.1 0 + 1)).map nv := by rw [List.map_set]
        rw [eK]
        have b10 : But [co] H8 (upd H' co (.lst ((ks.set c.1 (ks.getD c.1 0 + 1)).map nv))) := b9.trans (But.upd (by simp))
        have Z10 := Z.fresh hco6 s68 (one_mts hco8) b10
        have hco10 : upd H' co (.lst ((ks.set c.1 (ks.getD c.1 0 + 1)).map nv)) co = some (.lst ((ks.set c.1 (ks.getD c.1 0 + 1)).map nv)) := upd_same
        generalize upd H' co (.lst ((ks.set c.1 (ks.getD c.1 0 + 1)).map nv)) = H10 at b10 Z10 hco10 ⊢
        obtain ⟨aa, haa, hAa⟩ := Z10.asked_at (h := c.1) (by rw [I.lA]; exact hc1)
        obtain ⟨ra, hra, hRa⟩ := Z10.told_at (h := c.1) (by rw [I.lR]; exact hc1)
        have hlt := (List.getElem?_eq_some_iff.mp hat1).1
        refine ⟨_, rfl, _, rfl, _, rfl, ao, _, _, V.ref aa, rfl, rfl, SqL.of Z10.hao, at_map haa, aa, _, rfl, .inl (SqL.of hAa), _, _, rfl, rfl, _, rfl, itedF (by rw [List.length_map]; omega) ?_⟩
        refine ⟨_, rfl, _, rfl, _, rfl, ao, _, _, V.ref aa, rfl, rfl, SqL.of Z10.hao, at_map haa, _, rfl, aa, _, _, nv c.2, rfl, rfl, SqL.of hAa, at_mapf hat1, rfl, _, rfl, iteNS rfl ?_⟩
        have estep : run T b (S.cells.take (i + 1)) = (rowAt T c.2 (run T b (S.cells.take i))).2 := by
          rw [take_succ_of hcc, run_append]
          rfl
        have eks : ∀ h, h < n → (ks.set c.1 (ks.getD c.1 0 + 1)).getD h 0 = (pick h (S.cells.take (i + 1))).length := by
          intro h hh
          rw [take_succ_of hcc, pick_append, List.length_append]
          by_cases e : c.1 = h
          · subst e
            rw [getD_set_self (by omega), ekk]
            have : pick c.1 [c] = [c.2] := pick_self c.1 c.2
            rw [this]
            rfl
          · rw [getD_set_ne e, hkk h hh]
            have : pick h [c] = [] := pick_other (g := c.1) c.2 e
            rw [this]
            rfl
        refine ⟨_, rfl, _, rfl, _, rfl, ro, _, _, V.ref ra, rfl, rfl, SqL.of Z10.hro, at_map hra, ra, _, rfl, .inl (SqL.of hRa), _, _, rfl, rfl, _, rfl, ited (fun e => ?_) fun e => ?_⟩
        · have hl2 : ks.getD c.1 0 < (R.getD c.1 []).length := by
            rw [List.length_map] at e
            omega
          refine ⟨_, rfl, _, rfl, ro, _, _, V.ref ra, rfl, rfl, SqL.of Z10.hro, at_map hra, _, rfl, ra, _, _, _, rfl, rfl, SqL.of hRa, at_mapf (hat2 hl2), _, rfl, _, _, rfl, fun H11 s11 => ⟨_, rfl, iteNS rfl ?_⟩⟩
          exact ⟨_, _, _, _, ks.set c.1 (ks.getD c.1 0 + 1), by rw [estep]; rfl, b10.trans (But.of s11), s11 _ _ hco10, by rw [List.length_set]; exact hkl, eks⟩
        · refine iteF ?_
          exact ⟨_, _, _, _, ks.set c.1 (ks.getD c.1 0 + 1), by rw [estep]; rfl, b10, hco10, by rw [List.length_set]; exact hkl, eks⟩
      · rintro σ H12 ⟨w6, w14, w15, w16, ks, rfl, b12, hco12, hkl, hkk⟩
        have ecl : S.cells.take (cs.map V.ref).length = S.cells := List.take_of_length_le (by rw [List.length_map, hcsl]; exact Nat.le_refl _)
        rw [ecl] at hkk ⊢
        have Z12 := Z.fresh hco6 s68 (one_mts hco8) b12
        refine ⟨_, rfl, (n : Int), rfl, by omega, by omega, ?_⟩
        rw [en']
        refine for_range (lo := 0) (n := n) (fun i σ H' => ∃ (v6 : Option V),
            σ = [some (.ref a), some (.ref nu), some (.ref L.t), some (nv n), some (nv b), some (.ref L.p), v6, some (.ref ao), some (.ref ro), v9, v10, v11, some (nv (run T b S.cells)), some (.ref co), w14, w15, w16] ∧ Same H12 H')
          ⟨_, rfl, Same.refl _⟩ ?_ ?_
        · rintro i σ H' hi ⟨u6, rfl, s13⟩
          rw [show (0 : Int) + (i : Int) = (i : Int) by omega]
          have Z13 := Z12.same s13
          have hco13 := s13 _ _ hco12
          have hk := get_getD 0 (show i < ks.length by omega)
          have ekk := hkk i hi
          obtain ⟨aa, haa, hAa⟩ := Z13.asked_at (h := i) (by rw [I.lA]; exact hi)
          obtain ⟨ra, hra, hRa⟩ := Z13.told_at (h := i) (by rw [I.lR]; exact hi)
          obtain ⟨hle, hor⟩ := I.at_hand hi
          have hd : (((A.getD i []).map nv).length : Int) - (((R.getD i []).map nv).length : Int) = 0 ∨ (((A.getD i []).map nv).length : Int) - (((R.getD i []).map nv).length : Int) = 1 := by
            rw [List.length_map, List.length_map]
            rcases hor with ⟨_, e⟩ | ⟨_, _, e⟩
            · left
              omega
            · right
              omega
          refine ⟨_, rfl, _, rfl, co, _, _, _, rfl, rfl, SqL.of hco13, at_mapf hk, _, rfl, _, rfl, ro, _, _, V.ref ra, rfl, rfl, SqL.of Z13.hro, at_map hra, ra, _, rfl, .inl (SqL.of hRa), _, _, rfl, rfl, _, rfl, itedF (by rw [List.length_map]; omega) ?_⟩
          refine ⟨_, rfl, _, rfl, ao, _, _, V.ref aa, rfl, rfl, SqL.of Z13.hao, at_map haa, aa, _, rfl, .inl (SqL.of hAa), _, rfl, _, rfl, ro, _, _, V.ref ra, rfl, rfl, SqL.of Z13.hro, at_map hra, ra, _, rfl, .inl (SqL.of hRa), _, _, rfl, rfl,
            (by show 2 ≤ sizeLine; decide), fun z hz => ⟨z, _, rfl, .inl (SqL.of upd_same), rfl, rfl, _, rfl, itf ?_ ?_⟩⟩
          · show (!inV (V.int ((((A.getD i []).map nv).length : Int) - (((R.getD i []).map nv).length : Int))) [V.int 0, V.int 1]) = false
            rcases hd with e | e
            · rw [e]
              rfl
            · rw [e]
              rfl
          have s14 : Same H' (upd H' z (.lst [V.int 0, V.int 1])) := same_new hz
          have Z14 := Z13.same s14
          have ha := get_getD none (show i < S.asked.length by rw [I.la]; exact hi)
          refine ⟨_, rfl, L.p, L.dx, _, rfl, Z14.roll.ob, rf_no L n (by decide +kernel), _, rfl, L, n, i, T, S, S.asked.getD i none, rfl, Z14.roll, hi, ha, _, rfl, _, rfl, ao, _, _, V.ref aa, rfl, rfl, SqL.of Z14.hao, at_map haa, aa, _, rfl, .inl (SqL.of (s14 _ _ hAa)), _, rfl, _, rfl, ro, _, _, V.ref ra, rfl, rfl, SqL.of Z14.hro, at_map hra, ra, _, rfl, .inl (SqL.of (s14 _ _ hRa)), rfl, rfl, _, rfl, iteNS ?_ ?_⟩
          · rcases hor with ⟨e1, e2⟩ | ⟨op, e1, e2⟩
            · rw [e1, List.length_map, List.length_map, e2, dec_nv, beq_self_eq_true]
              rfl
            · rw [e1, List.length_map, List.length_map, dec_nv]
              have : ((A.getD i []).length == (R.getD i []).length) = false := by
                rw [beq_eq_false_iff_ne]
                omega
              rw [this]
              rfl
          · exact ⟨_, rfl, s13.trans s14⟩
        · rintro σ H' ⟨u6, rfl, s13⟩
          exact q H'
end
end Wf

/-! What the top has written; the end. -/
namespace Wf
open PySem L2
theorem all_mk {l : PySem.W.OpenLaw} {w : World} {K : PySem.W.Frag} {h : Heap} {mg : Str → Option Value} {fa C D f1 f2 f3 f4 f5 f6 f7 f8 f9 f10 f11 f12 f13 f14 f15 f16 f17 f18 f19 f20 : Addr} {od1 an1 od2 an2 od3 an3 od4 an4 od5 an5 od6 an6 od7 an7 od8 an8 od9 an9 od10 an10 od11 an11 od12 an12 od13 an13 od14 an14 od15 an15 od16 an16 od17 an17 od18 an18 od19 an19 od20 an20 : Option Addr} {sl1 sl2 sl3 sl4 sl5 sl6 sl7 sl8 sl9 sl10 sl11 sl12 sl13 sl14 sl15 sl16 sl17 sl18 sl19 sl20 : Array (Option Value)} {oc1 kV1 dc1 pm1 cd1 ct1 oc2 kV2 dc2 pm2 cd2 ct2 oc3 kV3 dc3 pm3 cd3 ct3 oc4 kV4 dc4 pm4 cd4 ct4 oc5 kV5 dc5 pm5 cd5 ct5 oc6 kV6 dc6 pm6 cd6 ct6 oc7 kV7 dc7 pm7 cd7 ct7 oc8 kV8 dc8 pm8 cd8 ct8 oc9 kV9 dc9 pm9 cd9 ct9 oc10 kV10 dc10 pm10 cd10 ct10 oc11 kV11 dc11 pm11 cd11 ct11 oc12 kV12 dc12 pm12 cd12 ct12 oc13 kV13 dc13 pm13 cd13 ct13 oc14 kV14 dc14 pm14 cd14 ct14 oc15 kV15 dc15 pm15 cd15 ct15 oc16 kV16 dc16 pm16 cd16 ct16 oc17 kV17 dc17 pm17 cd17 ct17 oc18 kV18 dc18 pm18 cd18 ct18 oc19 kV19 dc19 pm19 cd19 ct19 oc20 dc20 pm20 cd20 ct20 : Value} {t0 t1 t2 t3 : Tok} (X : K.In h) (G : h.Ns mainGlobals mg) (hfa : mg "law" = some (.ref fa))
    (aC : PySem.W.nsIn K mainGlobals "Roll" = some (some (.ref C)))
    (a1 : PySem.W.nsIn K mainGlobals "is_whole" = some (some (.ref f1))) (l1 : K.lookup f1 = some ⟨oc1, od1, .func (PySem.W.fnOf "is_whole" "is_whole" (defArgs sWhole) (defBody sWhole) (defScope sWhole) .none kV1 dc1 pm1 an1 cd1 ct1), sl1⟩) (c1 : PySem.W.codeIn K cd1 "is_whole" = true) (k1 : PySem.W.keepIn K (.ref f1) = true)
    (a2 : PySem.W.nsIn K mainGlobals "is_operation" = some (some (.ref f2))) (l2 : K.lookup f2 = some ⟨oc2, od2, .func (PySem.W.fnOf "is_operation" "is_operation" (defArgs sOper) (defBody sOper) (defScope sOper) .none kV2 dc2 pm2 an2 cd2 ct2), sl2⟩) (c2 : PySem.W.codeIn K cd2 "is_operation" = true) (k2 : PySem.W.keepIn K (.ref f2) = true)
    (a3 : PySem.W.nsIn K mainGlobals "look_table" = some (some (.ref f3))) (l3 : K.lookup f3 = some ⟨oc3, od3, .func (PySem.W.fnOf "look_table" "look_table" (defArgs sLookT) (defBody sLookT) (defScope sLookT) .none kV3 dc3 pm3 an3 cd3 ct3), sl3⟩) (c3 : PySem.W.codeIn K cd3 "look_table" = true) (k3 : PySem.W.keepIn K (.ref f3) = true)
    (a4 : PySem.W.nsIn K mainGlobals "look_stand" = some (some (.ref f4))) (l4 : K.lookup f4 = some ⟨oc4, od4, .func (PySem.W.fnOf "look_stand" "look_stand" (defArgs sLookS) (defBody sLookS) (defScope sLookS) .none kV4 dc4 pm4 an4 cd4 ct4), sl4⟩) (c4 : PySem.W.codeIn K cd4 "look_stand" = true) (k4 : PySem.W.keepIn K (.ref f4) = true)
    (a5 : PySem.W.nsIn K mainGlobals "look_operation" = some (some (.ref f5))) (l5 : K.lookup f5 = some ⟨oc5, od5, .func (PySem.W.fnOf "look_operation" "look_operation" (defArgs sLookO) (defBody sLookO) (defScope sLookO) .none kV5 dc5 pm5 an5 cd5 ct5), sl5⟩) (c5 : PySem.W.codeIn K cd5 "look_operation" = true) (k5 : PySem.W.keepIn K (.ref f5) = true)
    (a6 : PySem.W.nsIn K mainGlobals "look_many" = some (some (.ref f6))) (l6 : K.lookup f6 = some ⟨oc6, od6, .func (PySem.W.fnOf "look_many" "look_many" (defArgs sLookM) (defBody sLookM) (defScope sLookM) .none kV6 dc6 pm6 an6 cd6 ct6), sl6⟩) (c6 : PySem.W.codeIn K cd6 "look_many" = true) (k6 : PySem.W.keepIn K (.ref f6) = true)
    (a7 : PySem.W.nsIn K mainGlobals "_law_numbers" = some (some (.ref f7))) (l7 : K.lookup f7 = some ⟨oc7, od7, .func (PySem.W.fnOf "_law_numbers" "_law_numbers" (defArgs sNumbers) (defBody sNumbers) (defScope sNumbers) .none kV7 dc7 pm7 an7 cd7 ct7), sl7⟩) (c7 : PySem.W.codeIn K cd7 "_law_numbers" = true) (k7 : PySem.W.keepIn K (.ref f7) = true)
    (a8 : PySem.W.nsIn K mainGlobals "_law_known" = some (some (.ref f8))) (l8 : K.lookup f8 = some ⟨oc8, od8, .func (PySem.W.fnOf "_law_known" "_law_known" (defArgs sKnown) (defBody sKnown) (defScope sKnown) .none kV8 dc8 pm8 an8 cd8 ct8), sl8⟩) (c8 : PySem.W.codeIn K cd8 "_law_known" = true) (k8 : PySem.W.keepIn K (.ref f8) = true)
    (a9 : PySem.W.nsIn K mainGlobals "_law_rows" = some (some (.ref f9))) (l9 : K.lookup f9 = some ⟨oc9, od9, .func (PySem.W.fnOf "_law_rows" "_law_rows" (defArgs sLRows) (defBody sLRows) (defScope sLRows) .none kV9 dc9 pm9 an9 cd9 ct9), sl9⟩) (c9 : PySem.W.codeIn K cd9 "_law_rows" = true) (k9 : PySem.W.keepIn K (.ref f9) = true)
    (a10 : PySem.W.nsIn K mainGlobals "_law_table" = some (some (.ref f10))) (l10 : K.lookup f10 = some ⟨oc10, od10, .func (PySem.W.fnOf "_law_table" "_law_table" (defArgs sTable) (defBody sTable) (defScope sTable) .none kV10 dc10 pm10 an10 cd10 ct10), sl10⟩) (c10 : PySem.W.codeIn K cd10 "_law_table" = true) (k10 : PySem.W.keepIn K (.ref f10) = true)
    (a11 : PySem.W.nsIn K mainGlobals "_law_same" = some (some (.ref f11))) (l11 : K.lookup f11 = some ⟨oc11, od11, .func (PySem.W.fnOf "_law_same" "_law_same" (defArgs sSame) (defBody sSame) (defScope sSame) .none kV11 dc11 pm11 an11 cd11 ct11), sl11⟩) (c11 : PySem.W.codeIn K cd11 "_law_same" = true) (k11 : PySem.W.keepIn K (.ref f11) = true)
    (a12 : PySem.W.nsIn K mainGlobals "law" = some (some (.ref f12))) (l12 : K.lookup f12 = some ⟨oc12, od12, .func (PySem.W.fnOf "law" "law" (defArgs sLaw) (defBody sLaw) (defScope sLaw) .none kV12 dc12 pm12 an12 cd12 ct12), sl12⟩) (c12 : PySem.W.codeIn K cd12 "law" = true) (k12 : PySem.W.keepIn K (.ref f12) = true)
    (a13 : PySem.W.findIn K (.ref C) "look_hand" = some (some (.ref f13))) (i13 : PySem.W.isFn K (.ref f13) = true) (l13 : K.lookup f13 = some ⟨oc13, od13, .func (PySem.W.fnOf "look_hand" "Roll.look_hand" (defArgs sHand) (defBody sHand) (defScope sHand) .none kV13 dc13 pm13 an13 cd13 ct13), sl13⟩) (c13 : PySem.W.codeIn K cd13 "Roll.look_hand" = true) (k13 : PySem.W.keepIn K (.ref f13) = true)
    (a14 : PySem.W.findIn K (.ref C) "ask" = some (some (.ref f14))) (i14 : PySem.W.isFn K (.ref f14) = true) (l14 : K.lookup f14 = some ⟨oc14, od14, .func (PySem.W.fnOf "ask" "Roll.ask" (defArgs sAsk) (defBody sAsk) (defScope sAsk) .none kV14 dc14 pm14 an14 cd14 ct14), sl14⟩) (c14 : PySem.W.codeIn K cd14 "Roll.ask" = true) (k14 : PySem.W.keepIn K (.ref f14) = true)
    (a15 : PySem.W.findIn K (.ref C) "is_put" = some (some (.ref f15))) (i15 : PySem.W.isFn K (.ref f15) = true) (l15 : K.lookup f15 = some ⟨oc15, od15, .func (PySem.W.fnOf "is_put" "Roll.is_put" (defArgs sIsPut) (defBody sIsPut) (defScope sIsPut) .none kV15 dc15 pm15 an15 cd15 ct15), sl15⟩) (c15 : PySem.W.codeIn K cd15 "Roll.is_put" = true) (k15 : PySem.W.keepIn K (.ref f15) = true)
    (a16 : PySem.W.findIn K (.ref C) "winner" = some (some (.ref f16))) (i16 : PySem.W.isFn K (.ref f16) = true) (l16 : K.lookup f16 = some ⟨oc16, od16, .func (PySem.W.fnOf "winner" "Roll.winner" (defArgs sWinner) (defBody sWinner) (defScope sWinner) .none kV16 dc16 pm16 an16 cd16 ct16), sl16⟩) (c16 : PySem.W.codeIn K cd16 "Roll.winner" = true) (k16 : PySem.W.keepIn K (.ref f16) = true)
    (a17 : PySem.W.findIn K (.ref C) "step" = some (some (.ref f17))) (i17 : PySem.W.isFn K (.ref f17) = true) (l17 : K.lookup f17 = some ⟨oc17, od17, .func (PySem.W.fnOf "step" "Roll.step" (defArgs sStep) (defBody sStep) (defScope sStep) .none kV17 dc17 pm17 an17 cd17 ct17), sl17⟩) (c17 : PySem.W.codeIn K cd17 "Roll.step" = true) (k17 : PySem.W.keepIn K (.ref f17) = true)
    (a18 : PySem.W.findIn K (.ref C) "rows" = some (some (.ref f18))) (i18 : PySem.W.isFn K (.ref f18) = true) (l18 : K.lookup f18 = some ⟨oc18, od18, .func (PySem.W.fnOf "rows" "Roll.rows" (defArgs sRows) (defBody sRows) (defScope sRows) .none kV18 dc18 pm18 an18 cd18 ct18), sl18⟩) (c18 : PySem.W.codeIn K cd18 "Roll.rows" = true) (k18 : PySem.W.keepIn K (.ref f18) = true)
    (a19 : PySem.W.findIn K (.ref C) "pending" = some (some (.ref f19))) (i19 : PySem.W.isFn K (.ref f19) = true) (l19 : K.lookup f19 = some ⟨oc19, od19, .func (PySem.W.fnOf "pending" "Roll.pending" (defArgs sPend) (defBody sPend) (defScope sPend) .none kV19 dc19 pm19 an19 cd19 ct19), sl19⟩) (c19 : PySem.W.codeIn K cd19 "Roll.pending" = true) (k19 : PySem.W.keepIn K (.ref f19) = true)
    (a20 : PySem.W.findIn K (.ref C) "__init__" = some (some (.ref f20))) (i20 : PySem.W.isFn K (.ref f20) = true) (l20 : K.lookup f20 = some ⟨oc20, od20, .func (PySem.W.fnOf "__init__" "Roll.__init__" (defArgs sInit) (defBody sInit) (defScope sInit) .none (.ref D) dc20 pm20 an20 cd20 ct20), sl20⟩) (c20 : PySem.W.codeIn K cd20 "Roll.__init__" = true) (k20 : PySem.W.keepIn K (.ref f20) = true)
    (d0 : PySem.W.nsIn K D "start" = some (some (Value.int 0 t0)))
    (pg : PySem.W.plainGet K C Str.empty = true)
    (hd : PySem.W.hasDictIn K C = true)
    (po : PySem.W.plainOver K C = true)
    (sa : PySem.W.findIn K (.ref C) "__setattr__" = some (some (.builtin "object.__setattr__")))
    (mk : PySem.W.makesIn K C = true)
    (kc : PySem.W.keepIn K (.ref C) = true)
    (n0 : PySem.W.findIn K (.ref C) "table" = some none)
    (n1 : PySem.W.findIn K (.ref C) "many" = some none)
    (n2 : PySem.W.findIn K (.ref C) "cells" = some none)
    (n3 : PySem.W.findIn K (.ref C) "asked" = some none)
    (n4 : PySem.W.findIn K (.ref C) "gone" = some none)
    (n5 : PySem.W.findIn K (.ref C) "here" = some none)
    (z0 : PySem.W.nsIn K mainGlobals "isinstance" = some none)
    (z1 : PySem.W.nsIn K mainGlobals "int" = some none)
    (z2 : PySem.W.nsIn K mainGlobals "bool" = some none)
    (z3 : PySem.W.nsIn K mainGlobals "str" = some none)
    (z4 : PySem.W.nsIn K mainGlobals "list" = some none)
    (z5 : PySem.W.nsIn K mainGlobals "tuple" = some none)
    (z6 : PySem.W.nsIn K mainGlobals "len" = some none)
    (z7 : PySem.W.nsIn K mainGlobals "all" = some none)
    (z8 : PySem.W.nsIn K mainGlobals "any" = some none)
    (z9 : PySem.W.nsIn K mainGlobals "enumerate" = some none)
    (z10 : PySem.W.nsIn K mainGlobals "range" = some none)
    (m0 : PySem.W.nsIn K mainGlobals "MOST_STANDS" = some (some (Value.int 5 t1)))
    (m1 : PySem.W.nsIn K mainGlobals "MOST_OPERATIONS" = some (some (Value.int 4 t2)))
    (m2 : PySem.W.nsIn K mainGlobals "MOST_HANDS" = some (some (Value.int 4 t3))) :
    ∃ fd : FuncData, (∀ (s : Shared) (v : Value), BindsTo s fd ⟨[v], []⟩ [("_law_script", v)]) ∧ ∀ base : Heap, K.In base → base.Ns mainGlobals mg → FnOk l.prog w K mg base CX0 7 fa fd ["_law_script"] (spLaw K) := by
  have e := hfa.symm.trans (PySem.W.mg_of X G a12)
  cases e
  have B : Blt mg := ⟨PySem.W.mg_none_of X G z0, PySem.W.mg_none_of X G z1, PySem.W.mg_none_of X G z2, PySem.W.mg_none_of X G z3, PySem.W.mg_none_of X G z4, PySem.W.mg_none_of X G z5, PySem.W.mg_none_of X G z6, PySem.W.mg_none_of X G z7, PySem.W.mg_none_of X G z8, PySem.W.mg_none_of X G z9, PySem.W.mg_none_of X G z10⟩
  have Z : Cst mg := ⟨⟨_, PySem.W.mg_of X G m0⟩, ⟨_, PySem.W.mg_of X G m1⟩, ⟨_, PySem.W.mg_of X G m2⟩⟩
  have T : RTxt K C := ⟨⟨pg, hd, po, sa⟩, n0, n1, n2, n3, n4, n5⟩
  have F1 := fun_mk (st := sWhole) l1 c1 k1
  have b1 := F1.binds (ps := ["thing", "low", "high"]) fun _ _ _ _ _ _ us hl => match us, hl with | [_, _, _], _ => rfl
  have F2 := fun_mk (st := sOper) l2 c2 k2
  have b2 := F2.binds (ps := ["rows", "many"]) fun _ _ _ _ _ _ us hl => match us, hl with | [_, _], _ => rfl
  have F3 := fun_mk (st := sLookT) l3 c3 k3
  have b3 := F3.binds (ps := ["table"]) fun _ _ _ _ _ _ us hl => match us, hl with | [_], _ => rfl
  have F4 := fun_mk (st := sLookS) l4 c4 k4
  have b4 := F4.binds (ps := ["table", "stand"]) fun _ _ _ _ _ _ us hl => match us, hl with | [_, _], _ => rfl
  have F5 := fun_mk (st := sLookO) l5 c5 k5
  have b5 := F5.binds (ps := ["table", "operation"]) fun _ _ _ _ _ _ us hl => match us, hl with | [_, _], _ => rfl
  have F6 := fun_mk (st := sLookM) l6 c6 k6
  have b6 := F6.binds (ps := ["many"]) fun _ _ _ _ _ _ us hl => match us, hl with | [_], _ => rfl
  have F7 := fun_mk (st := sNumbers) l7 c7 k7
  have b7 := F7.binds (ps := ["_law_script", "_law_many"]) fun _ _ _ _ _ _ us hl => match us, hl with | [_, _], _ => rfl
  have F8 := fun_mk (st := sKnown) l8 c8 k8
  have b8 := F8.binds (ps := ["_law_d"]) fun _ _ _ _ _ _ us hl => match us, hl with | [_], _ => rfl
  have F9 := fun_mk (st := sLRows) l9 c9 k9
  have b9 := F9.binds (ps := ["_law_d", "_law_many"]) fun _ _ _ _ _ _ us hl => match us, hl with | [_, _], _ => rfl
  have F10 := fun_mk (st := sTable) l10 c10 k10
  have b10 := F10.binds (ps := ["_law_d", "_law_most_stands", "_law_most_operations"]) fun _ _ _ _ _ _ us hl => match us, hl with | [_, _, _], _ => rfl
  have F11 := fun_mk (st := sSame) l11 c11 k11
  have b11 := F11.binds (ps := ["_law_found", "_law_due"]) fun _ _ _ _ _ _ us hl => match us, hl with | [_, _], _ => rfl
  have F12 := fun_mk (st := sLaw) l12 c12 k12
  have F13 := fun_mk (st := sHand) l13 c13 k13
  have b13 := F13.binds (ps := ["self", "hand"]) fun _ _ _ _ _ _ us hl => match us, hl with | [_, _], _ => rfl
  have F14 := fun_mk (st := sAsk) l14 c14 k14
  have b14 := F14.binds (ps := ["self", "hand", "operation"]) fun _ _ _ _ _ _ us hl => match us, hl with | [_, _, _], _ => rfl
  have F15 := fun_mk (st := sIsPut) l15 c15 k15
  have b15 := F15.binds (ps := ["self", "hand"]) fun _ _ _ _ _ _ us hl => match us, hl with | [_, _], _ => rfl
  have F16 := fun_mk (st := sWinner) l16 c16 k16
  have b16 := F16.binds (ps := ["self", "hand"]) fun _ _ _ _ _ _ us hl => match us, hl with | [_, _], _ => rfl
  have F17 := fun_mk (st := sStep) l17 c17 k17
  have b17 := F17.binds (ps := ["self", "hand"]) fun _ _ _ _ _ _ us hl => match us, hl with | [_, _], _ => rfl
  have F18 := fun_mk (st := sRows) l18 c18 k18
  have b18 := F18.binds (ps := ["self"]) fun _ _ _ _ _ _ us hl => match us, hl with | [_], _ => rfl
  have F19 := fun_mk (st := sPend) l19 c19 k19
  have b19 := F19.binds (ps := ["self", "hand"]) fun _ _ _ _ _ _ us hl => match us, hl with | [_, _], _ => rfl
  have FI : FunD K "__init__" "Roll.__init__" (defArgs sInit) (defBody sInit) (defScope sInit) [] [("start", .int 0)] f20 (PySem.W.fnOf "__init__" "Roll.__init__" (defArgs sInit) (defBody sInit) (defScope sInit) .none (.ref D) dc20 pm20 an20 cd20 ct20) := by
    refine ⟨⟨_, _, _, _, _, _, _, _, _, _, rfl, l20, c20, .inl ⟨rfl, rfl⟩, .inr ⟨D, rfl, fun q hq => ?_⟩⟩, k20⟩
    have e : q = (("start" : Str), V.int 0) := List.mem_singleton.mp hq
    subst e
    exact ⟨_, d0, _, rfl⟩
  obtain ⟨mv, kb⟩ := FI.kbinds0 (ps := ["self", "table", "many", "start"]) 3 ["start"] [] (fun {α} vs mz zs => vs ++ (mz ++ zs)) (fun z => nomatch z) (fun q hq => nomatch hq) (fun r1 r2 r3 => r1.append (r2.append r3))
    fun _ _ _ _ _ _ us mv ws h1 h2 h3 => match us, mv, ws, h1, h2, h3 with | [_, _, _], [], [_], _, _, _ => rfl
  refine ⟨PySem.W.fnOf "law" "law" (defArgs sLaw) (defBody sLaw) (defScope sLaw) .none kV12 dc12 pm12 an12 cd12 ct12, fun s v => .of_eq rfl, fun base _ _ => ?_⟩
  have G1 : Cal l.prog w K mg base 1 "is_whole" f1 _ ["thing", "low", "high"] spWhole := ⟨ok_whole F1 B, PySem.W.mg_of X G a1, k1, b1⟩
  have G2 : Cal l.prog w K mg base 2 "is_operation" f2 _ ["rows", "many"] (spOper K) := ⟨ok_oper F2 B Z G1, PySem.W.mg_of X G a2, k2, b2⟩
  have G3 : Cal l.prog w K mg base 3 "look_table" f3 _ ["table"] (spLookT K) := ⟨ok_lookT F3 B Z G2, PySem.W.mg_of X G a3, k3, b3⟩
  have G4 : Cal l.prog w K mg base 4 "look_stand" f4 _ ["table", "stand"] (spLookS K) := ⟨ok_lookS F4 B G3, PySem.W.mg_of X G a4, k4, b4⟩
  have G5 : Cal l.prog w K mg base 1 "look_operation" f5 _ ["table", "operation"] (spLookO K) := ⟨ok_lookO F5 B, PySem.W.mg_of X G a5, k5, b5⟩
  have G6 : Cal l.prog w K mg base 1 "look_many" f6 _ ["many"] spLookM := ⟨ok_lookM F6 Z, PySem.W.mg_of X G a6, k6, b6⟩
  have G7 : Cal l.prog w K mg base 1 "_law_numbers" f7 _ ["_law_script", "_law_many"] (spNumbers K) := ⟨ok_numbers F7 B, PySem.W.mg_of X G a7, k7, b7⟩
  have G8 : Cal l.prog w K mg base 1 "_law_known" f8 _ ["_law_d"] (spKnown K) := ⟨ok_known F8, PySem.W.mg_of X G a8, k8, b8⟩
  have G9 : Cal l.prog w K mg base 1 "_law_rows" f9 _ ["_law_d", "_law_many"] (spLRows K) := ⟨ok_lrows F9 B, PySem.W.mg_of X G a9, k9, b9⟩
  have G10 : Cal l.prog w K mg base 2 "_law_table" f10 _ ["_law_d", "_law_most_stands", "_law_most_operations"] (spTable K) := ⟨ok_table F10 B G8 G9, PySem.W.mg_of X G a10, k10, b10⟩
  have G11 : Cal l.prog w K mg base 1 "_law_same" f11 _ ["_law_found", "_law_due"] spSame := ⟨ok_same F11 B, PySem.W.mg_of X G a11, k11, b11⟩
  have G13 : Mth l.prog w K mg base C 1 "look_hand" f13 _ ["self", "hand"] (spHand C) := ⟨ok_hand F13 T, ⟨a13, i13, k13⟩, b13⟩
  have G14 : Mth l.prog w K mg base C 2 "ask" f14 _ ["self", "hand", "operation"] (spAsk K C) := ⟨ok_ask F14 T G13 G5, ⟨a14, i14, k14⟩, b14⟩
  have G15 : Mth l.prog w K mg base C 1 "is_put" f15 _ ["self", "hand"] (spIsPut K C) := ⟨ok_isPut F15 T B, ⟨a15, i15, k15⟩, b15⟩
  have G16 : Mth l.prog w K mg base C 2 "winner" f16 _ ["self", "hand"] (spWinner K C) := ⟨ok_winner F16 T B G15, ⟨a16, i16, k16⟩, b16⟩
  have G17 : Mth l.prog w K mg base C 3 "step" f17 _ ["self", "hand"] (spStep K C) := ⟨ok_step F17 T B G13 G16, ⟨a17, i17, k17⟩, b17⟩
  have G18 : Mth l.prog w K mg base C 1 "rows" f18 _ ["self"] (spRows K C) := ⟨ok_rows F18 T B, ⟨a18, i18, k18⟩, b18⟩
  have G19 : Mth l.prog w K mg base C 2 "pending" f19 _ ["self", "hand"] (spPend K C) := ⟨ok_pend F19 T G13, ⟨a19, i19, k19⟩, b19⟩
  exact ok_law F12 B T (PySem.W.mg_of X G aC) ⟨mk, a20, i20, kc⟩ G7 G10 (ok_init FI T G4 G6) kb G19 G14 G17 G18 G11
theorem walk {l : PySem.W.OpenLaw} {q : Program} {loose : List Str} {XP : (Str → Option Value) → Heap → Prop} {YP : World → Heap → Prop} {d : DefRec} {K : Params → PySem.W.Frag} (hn : l.most = some 63) (hdf : d.params.defaults = [])
    (hY : ∀ (w : World) (h : Heap), YP w h → (K w.params).In h)
    (F : ∀ (w : World) (mg : Str → Option Value) (fa : Addr) (h : Heap), (K w.params).In h → h.Ns mainGlobals mg → mg d.name = some (.ref fa) →
      ∃ fd : FuncData, (∀ (s : Shared) (u : Value), BindsTo s fd ⟨[u], []⟩ [("_law_script", u)]) ∧ ∀ base : Heap, (K w.params).In base → base.Ns mainGlobals mg → FnOk l.prog w (K w.params) mg base CX0 7 fa fd ["_law_script"] (spLaw (K w.params))) :
    PySem.W.WalkO q loose XP YP l.row.toRowW d [] (fun f vs => PySem.call f vs) :=
  L2.walk_of (n := 63) (k := 7) (x := "_law_script") (CX := fun _ => CX0) (sp := fun w => spLaw (K w.params)) hn (by decide) hdf ⟨rfl, by decide, by decide⟩ hY F (fun _ _ a ns hl _ hS => ⟨a, ns, rfl, hS, hl, fun _ => rfl⟩) fun _ _ _ _ _ z => z
end Wf

open PySem PySem.W PyProof.Rows in
set_option maxRecDepth 100000 in
set_option maxHeartbeats 0 in
theorem PySem.Challenge.cw_whofirst_k52_whole_rolls_answer_as_one_t_holds : PySem.Challenge.rw_whofirst_k52_whole_rolls_answer_as_one_t.Holds := by
  w_on; o_law; k_head; (case hw => w_witness2)
  k_fill
  refine Wf.walk (l := PySem.Challenge.rw_whofirst_k52_whole_rolls_answer_as_one_t) rfl rfl (fun w h Y => PySem.W.kIn_of Y) ?F
  case F =>
    intro w mg fa h KX G hmg
    refine' Wf.all_mk KX G hmg ?aC ?a1 ?l1 ?c1 ?k1 ?a2 ?l2 ?c2 ?k2 ?a3 ?l3 ?c3 ?k3 ?a4 ?l4 ?c4 ?k4 ?a5 ?l5 ?c5 ?k5 ?a6 ?l6 ?c6 ?k6 ?a7 ?l7 ?c7 ?k7 ?a8 ?l8 ?c8 ?k8 ?a9 ?l9 ?c9 ?k9 ?a10 ?l10 ?c10 ?k10 ?a11 ?l11 ?c11 ?k11 ?a12 ?l12 ?c12 ?k12 ?a13 ?i13 ?l13 ?c13 ?k13 ?a14 ?i14 ?l14 ?c14 ?k14 ?a15 ?i15 ?l15 ?c15 ?k15 ?a16 ?i16 ?l16 ?c16 ?k16 ?a17 ?i17 ?l17 ?c17 ?k17 ?a18 ?i18 ?l18 ?c18 ?k18 ?a19 ?i19 ?l19 ?c19 ?k19 ?a20 ?i20 ?l20 ?c20 ?k20 ?d0 ?pg ?hd ?po ?sa ?mk ?kc ?n0 ?n1 ?n2 ?n3 ?n4 ?n5 ?z0 ?z1 ?z2 ?z3 ?z4 ?z5 ?z6 ?z7 ?z8 ?z9 ?z10 ?m0 ?m1 ?m2
    (case aC => k_is)
    (case a1 => k_is)
    (case l1 => k_is)
    (case c1 => k_is)
    (case k1 => k_is)
    (case a2 => k_is)
    (case l2 => k_is)
    (case c2 => k_is)
    (case k2 => k_is)
    (case a3 => k_is)
    (case l3 => k_is)
    (case c3 => k_is)
    (case k3 => k_is)
    (case a4 => k_is)
    (case l4 => k_is)
    (case c4 => k_is)
    (case k4 => k_is)
    (case a5 => k_is)
    (case l5 => k_is)
    (case c5 => k_is)
    (case k5 => k_is)
    (case a6 => k_is)
    (case l6 => k_is)
    (case c6 => k_is)
    (case k6 => k_is)
    (case a7 => k_is)
    (case l7 => k_is)
    (case c7 => k_is)
    (case k7 => k_is)
    (case a8 => k_is)
    (case l8 => k_is)
    (case c8 => k_is)
    (case k8 => k_is)
    (case a9 => k_is)
    (case l9 => k_is)
    (case c9 => k_is)
    (case k9 => k_is)
    (case a10 => k_is)
    (case l10 => k_is)
    (case c10 => k_is)
    (case k10 => k_is)
    (case a11 => k_is)
    (case l11 => k_is)
    (case c11 => k_is)
    (case k11 => k_is)
    (case a12 => k_is)
    (case l12 => k_is)
    (case c12 => k_is)
    (case k12 => k_is)
    (case a13 => k_is)
    (case i13 => k_is)
    (case l13 => k_is)
    (case c13 => k_is)
    (case k13 => k_is)
    (case a14 => k_is)
    (case i14 => k_is)
    (case l14 => k_is)
    (case c14 => k_is)
    (case k14 => k_is)
    (case a15 => k_is)
    (case i15 => k_is)
    (case l15 => k_is)
    (case c15 => k_is)
    (case k15 => k_is)
    (case a16 => k_is)
    (case i16 => k_is)
    (case l16 => k_is)
    (case c16 => k_is)
    (case k16 => k_is)
    (case a17 => k_is)
    (case i17 => k_is)
    (case l17 => k_is)
    (case c17 => k_is)
    (case k17 => k_is)
    (case a18 => k_is)
    (case i18 => k_is)
    (case l18 => k_is)
    (case c18 => k_is)
    (case k18 => k_is)
    (case a19 => k_is)
    (case i19 => k_is)
    (case l19 => k_is)
    (case c19 => k_is)
    (case k19 => k_is)
    (case a20 => k_is)
    (case i20 => k_is)
    (case l20 => k_is)
    (case c20 => k_is)
    (case k20 => k_is)
    (case d0 => k_is)
    (case pg => k_is)
    (case hd => k_is)
    (case po => k_is)
    (case sa => k_is)
    (case mk => k_is)
    (case kc => k_is)
    (case n0 => k_is)
    (case n1 => k_is)
    (case n2 => k_is)
    (case n3 => k_is)
    (case n4 => k_is)
    (case n5 => k_is)
    (case z0 => k_is)
    (case z1 => k_is)
    (case z2 => k_is)
    (case z3 => k_is)
    (case z4 => k_is)
    (case z5 => k_is)
    (case z6 => k_is)
    (case z7 => k_is)
    (case z8 => k_is)
    (case z9 => k_is)
    (case z10 => k_is)
    (case m0 => k_is)
    (case m1 => k_is)
    (case m2 => k_is)
#print axioms PySem.Challenge.cw_whofirst_k52_whole_rolls_answer_as_one_t_holds
