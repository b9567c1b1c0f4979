import PyProof.Rows.All
import Wide.All
import OpenK.AllK
import Wide.FinOn
import HandS.ForMost
import HandS.IsInst
import HandS.NoneIn
import HandS.TupLen
import HandS.Defaults
import KE.GoesEnum
import KE.SortData
import PyProof.ReprRoads
import HandS.FStrTup
import PySem.Challenge.RW_stagesfull_k14_needs_and_orders
set_option Elab.async false
set_option maxRecDepth 100000
set_option maxHeartbeats 4000000
/-! ## K14Math -/
/-! The plain law of k14: deeds, needs, the greedy order; no Python here. -/
namespace K14
/-- a deed: forward or back, its portion, its stage -/
structure Dd where
  f : Bool
  k : Nat
  s : Nat
  deriving DecidableEq

def needD (S : Nat) (d : Dd) : List Dd :=
  match d.f with
  | true => if 0 < d.s then [⟨true, d.k, d.s - 1⟩] else []
  | false => if d.s + 1 < S then [⟨false, d.k, d.s + 1⟩, ⟨true, d.k, d.s⟩] else [⟨true, d.k, d.s⟩]

/-- machine m's next deed, if it can come -/
def able (S : Nat) (R : List (List Dd)) (ats : List Nat) (done : List Dd) (m : Nat) : Option Dd :=
  match (R.getD m [])[ats.getD m 0]? with
  | some d => if (needD S d).all (fun n => decide (n ∈ done)) = true then some d else none
  | none => none

def pickIn (F : Nat → Option Dd) : List Nat → Option (Nat × Dd)
  | [] => none
  | m :: r => match F m with
    | some d => some (m, d)
    | none => pickIn F r

structure G where
  ats : List Nat
  ord : List Dd

def pick (S : Nat) (R : List (List Dd)) (g : G) : Option (Nat × Dd) := pickIn (able S R g.ats g.ord) (List.range R.length)
def bump (g : G) (m : Nat) (d : Dd) : G := ⟨g.ats.set m (g.ats.getD m 0 + 1), g.ord ++ [d]⟩
def step (S : Nat) (R : List (List Dd)) (g : G) : G :=
  match pick S R g with
  | some (m, d) => bump g m d
  | none => g
def run (S : Nat) (R : List (List Dd)) : Nat → G
  | 0 => ⟨List.replicate R.length 0, []⟩
  | n + 1 => step S R (run S R n)

theorem pickIn_some {F : Nat → Option Dd} : ∀ {l : List Nat} {m : Nat} {d : Dd}, pickIn F l = some (m, d) → m ∈ l ∧ F m = some d
  | [], m, d, h => by simp [pickIn] at h
  | a :: r, m, d, h => by
    unfold pickIn at h
    cases e : F a with
    | some d' =>
      rw [e] at h
      simp only [Option.some.injEq, Prod.mk.injEq] at h
      obtain ⟨rfl, rfl⟩ := h
      exact ⟨List.mem_cons_self, e⟩
    | none =>
      rw [e] at h
      obtain ⟨h1, h2⟩ := pickIn_some (l := r) h
      exact ⟨List.mem_cons_of_mem _ h1, h2⟩
theorem pickIn_none {F : Nat → Option Dd} : ∀ {l : List Nat}, (∀ m ∈ l, F m = none) → pickIn F l = none
  | [], _ => rfl
  | a :: r, h => by
    unfold pickIn
    rw [h a List.mem_cons_self]
    exact pickIn_none fun m hm => h m (List.mem_cons_of_mem _ hm)
theorem pickIn_of_none {F : Nat → Option Dd} : ∀ {l : List Nat}, pickIn F l = none → ∀ m ∈ l, F m = none
  | [], _, m, hm => by simp at hm
  | a :: r, h, m, hm => by
    unfold pickIn at h
    cases e : F a with
    | some d' => rw [e] at h; simp at h
    | none =>
      rw [e] at h
      rcases List.mem_cons.mp hm with rfl | hm
      · exact e
      · exact pickIn_of_none (l := r) h m hm
theorem pickIn_app {F : Nat → Option Dd} : ∀ {l r : List Nat}, (∀ m ∈ l, F m = none) → pickIn F (l ++ r) = pickIn F r
  | [], _, _ => rfl
  | a :: l, r, h => by
    have e : pickIn F (a :: (l ++ r)) = match F a with
      | some d => some (a, d)
      | none => pickIn F (l ++ r) := rfl
    show pickIn F (a :: (l ++ r)) = _
    rw [e, h a List.mem_cons_self]
    exact pickIn_app fun m hm => h m (List.mem_cons_of_mem _ hm)
theorem range_split {n m : Nat} (h : m < n) : List.range n = List.range m ++ m :: List.range' (m + 1) (n - m - 1) := by
  have e : n = m + (1 + (n - m - 1)) := by omega
  conv => lhs; rw [e]
  rw [List.range_add, List.range_eq_range' (n := 1 + (n - m - 1)), List.map_add_range', Nat.add_comm 1, List.range'_succ]
  simp
/-- the lowest machine that can -/
theorem pick_at {S : Nat} {R : List (List Dd)} {g : G} {m : Nat} {d : Dd} (hm : m < R.length) (h : able S R g.ats g.ord m = some d) (hn : ∀ j, j < m → able S R g.ats g.ord j = none) : pick S R g = some (m, d) := by
  unfold pick
  rw [range_split hm, pickIn_app (fun j hj => hn j (List.mem_range.mp hj))]
  unfold pickIn
  rw [h]
theorem pick_no {S : Nat} {R : List (List Dd)} {g : G} (hn : ∀ j, j < R.length → able S R g.ats g.ord j = none) : pick S R g = none :=
  pickIn_none fun m hm => hn m (List.mem_range.mp hm)
theorem pick_some {S : Nat} {R : List (List Dd)} {g : G} {m : Nat} {d : Dd} (h : pick S R g = some (m, d)) : m < R.length ∧ able S R g.ats g.ord m = some d := by
  obtain ⟨h1, h2⟩ := pickIn_some h
  exact ⟨List.mem_range.mp h1, h2⟩
theorem pick_none {S : Nat} {R : List (List Dd)} {g : G} (h : pick S R g = none) : ∀ j, j < R.length → able S R g.ats g.ord j = none := fun j hj =>
  pickIn_of_none h j (List.mem_range.mpr hj)
theorem able_some {S : Nat} {R : List (List Dd)} {ats : List Nat} {done : List Dd} {m : Nat} {d : Dd} (h : able S R ats done m = some d) :
    (R.getD m [])[ats.getD m 0]? = some d ∧ ∀ n ∈ needD S d, n ∈ done := by
  unfold able at h
  split at h
  · rename_i d' e
    split at h
    · rename_i ha
      simp only [Option.some.injEq] at h
      subst h
      refine ⟨e, fun n hn => ?_⟩
      have := List.all_eq_true.mp ha n hn
      exact of_decide_eq_true this
    · simp at h
  · simp at h
theorem able_of {S : Nat} {R : List (List Dd)} {ats : List Nat} {done : List Dd} {m : Nat} {d : Dd} (e : (R.getD m [])[ats.getD m 0]? = some d) (h : ∀ n ∈ needD S d, n ∈ done) : able S R ats done m = some d := by
  unfold able
  rw [e]
  show (if _ then _ else _) = _
  rw [if_pos (List.all_eq_true.mpr fun n hn => decide_eq_true (h n hn))]
theorem able_off {S : Nat} {R : List (List Dd)} {ats : List Nat} {done : List Dd} {m : Nat} (e : (R.getD m [])[ats.getD m 0]? = none) : able S R ats done m = none := by
  unfold able
  rw [e]
theorem able_not {S : Nat} {R : List (List Dd)} {ats : List Nat} {done : List Dd} {m : Nat} {d : Dd} (e : (R.getD m [])[ats.getD m 0]? = some d) (h : (needD S d).all (fun n => decide (n ∈ done)) = false) : able S R ats done m = none := by
  unfold able
  rw [e]
  show (if _ then _ else _) = _
  rw [h]
  rfl

/-! ### lists -/
theorem nodup_sub_len {α : Type} [DecidableEq α] : ∀ {o l : List α}, o.Nodup → (∀ d ∈ o, d ∈ l) → o.length ≤ l.length
  | [], l, _, _ => Nat.zero_le _
  | a :: t, l, hn, hs => by
    obtain ⟨h1, h2⟩ := List.nodup_cons.mp hn
    have ha : a ∈ l := hs a List.mem_cons_self
    have hs' : ∀ d ∈ t, d ∈ l.erase a := fun d hd => by
      have hne : d ≠ a := fun e => h1 (e ▸ hd)
      exact (List.mem_erase_of_ne hne).mpr (hs d (List.mem_cons_of_mem _ hd))
    have ih := nodup_sub_len h2 hs'
    have hl := List.length_erase_of_mem ha
    have hp : 0 < l.length := List.length_pos_of_mem ha
    rw [List.length_cons]
    omega
theorem exists_missing {α : Type} [DecidableEq α] {o l : List α} (hn : o.Nodup) (h : l.length < o.length) : ∃ d ∈ o, d ∉ l := by
  by_cases hx : ∃ d ∈ o, d ∉ l
  · exact hx
  · have hall : ∀ d ∈ o, d ∈ l := fun d hd => Classical.byContradiction fun q => hx ⟨d, hd, q⟩
    have := nodup_sub_len hn hall
    omega
/-- the first that lacks -/
theorem first_missing {α : Type} [DecidableEq α] : ∀ (o l : List α), (∃ d ∈ o, d ∉ l) → ∃ (i : Nat) (d : α), o[i]? = some d ∧ d ∉ l ∧ ∀ x ∈ o.take i, x ∈ l
  | [], l, h => by
    obtain ⟨d, hd, _⟩ := h
    simp at hd
  | a :: t, l, h => by
    by_cases ha : a ∈ l
    · have h' : ∃ d ∈ t, d ∉ l := by
        obtain ⟨d, hd, hn⟩ := h
        rcases List.mem_cons.mp hd with rfl | hd
        · exact absurd ha hn
        · exact ⟨d, hd, hn⟩
      obtain ⟨i, d, e, hn, hx⟩ := first_missing t l h'
      refine ⟨i + 1, d, by simpa using e, hn, fun x hx' => ?_⟩
      rw [List.take_succ_cons] at hx'
      rcases List.mem_cons.mp hx' with rfl | hx'
      · exact ha
      · exact hx x hx'
    · exact ⟨0, a, rfl, ha, fun x hx => by simp at hx⟩
theorem getD_set {l : List Nat} {m j x d : Nat} (hm : m < l.length) : (l.set m x).getD j d = if j = m then x else l.getD j d := by
  rw [List.getD_eq_getElem?_getD, List.getD_eq_getElem?_getD]
  by_cases h : j = m
  · subst h
    rw [List.getElem?_set_self hm, if_pos rfl]
    rfl
  · rw [List.getElem?_set_ne (fun e => h e.symm), if_neg h]

/-! ### the drawn order and the rows made of it -/
structure Ord (S : Nat) (o : List Dd) : Prop where
  nd : o.Nodup
  st : ∀ d ∈ o, d.s < S
  nb : ∀ (i : Nat) (d : Dd), o[i]? = some d → ∀ n ∈ needD S d, n ∈ o.take i
def onM (P m : Nat) (d : Dd) : Bool := decide (d.s % P = m)
def rowsOf (P : Nat) (o : List Dd) : List (List Dd) := (List.range P).map fun m => o.filter (onM P m)
theorem rowsOf_len {P : Nat} {o : List Dd} : (rowsOf P o).length = P := by unfold rowsOf; simp
theorem rowsOf_at {P m : Nat} {o : List Dd} (h : m < P) : (rowsOf P o).getD m [] = o.filter (onM P m) := by
  unfold rowsOf
  rw [List.getD_eq_getElem?_getD, List.getElem?_map, List.getElem?_range h]
  rfl
theorem sum_rows {P : Nat} (hP : 0 < P) : ∀ (o : List Dd), ((rowsOf P o).map List.length).sum = o.length
  | [] => by
    unfold rowsOf
    rw [List.map_map]
    have : ∀ (l : List Nat), (l.map (List.length ∘ fun m => ([] : List Dd).filter (onM P m))).sum = 0 := fun l => by
      induction l with
      | nil => rfl
      | cons a r ih => rw [List.map_cons, List.sum_cons, ih]; rfl
    rw [this]; rfl
  | d :: t => by
    have ih := sum_rows hP t
    unfold rowsOf at ih ⊢
    rw [List.map_map] at ih ⊢
    have hd : d.s % P < P := Nat.mod_lt _ hP
    have key : ∀ (l : List Nat), l.Nodup → (l.map (List.length ∘ fun m => (d :: t).filter (onM P m))).sum = (l.map (List.length ∘ fun m => t.filter (onM P m))).sum + (if d.s % P ∈ l then 1 else 0) := fun l => by
      induction l with
      | nil => intro _; rfl
      | cons a r ihr =>
        intro hn
        obtain ⟨h1, h2⟩ := List.nodup_cons.mp hn
        rw [List.map_cons, List.sum_cons, List.map_cons, List.sum_cons, ihr h2]
        show ((d :: t).filter (onM P a)).length + _ = (t.filter (onM P a)).length + _ + _
        by_cases ha : d.s % P = a
        · have hon : onM P a d = true := decide_eq_true ha
          have hnr : ¬ d.s % P ∈ r := ha ▸ h1
          rw [List.filter_cons, if_pos hon, List.length_cons, if_neg hnr, if_pos (by rw [ha]; exact List.mem_cons_self)]
          omega
        · have hon : onM P a d = false := decide_eq_false ha
          rw [List.filter_cons, if_neg (by rw [hon]; decide)]
          by_cases hr : d.s % P ∈ r
          · rw [if_pos hr, if_pos (List.mem_cons_of_mem _ hr)]
            omega
          · rw [if_neg hr, if_neg (by simp [ha, hr])]
            omega
    rw [key _ List.nodup_range, ih, if_pos (List.mem_range.mpr hd), List.length_cons]

/-- what holds of the greedy state -/
structure GI (R : List (List Dd)) (g : G) : Prop where
  la : g.ats.length = R.length
  le : ∀ m, m < R.length → g.ats.getD m 0 ≤ (R.getD m []).length
  mem : ∀ d, d ∈ g.ord ↔ ∃ m, m < R.length ∧ d ∈ (R.getD m []).take (g.ats.getD m 0)
theorem gi_start {R : List (List Dd)} : GI R ⟨List.replicate R.length 0, []⟩ := by
  have h0 : ∀ m, (List.replicate R.length 0).getD m 0 = 0 := fun m => by
    rw [List.getD_eq_getElem?_getD, List.getElem?_replicate]
    split <;> rfl
  refine ⟨by simp, fun m _ => by simp only [h0]; exact Nat.zero_le _, fun d => ?_⟩
  simp only [h0]
  constructor
  · intro h; simp at h
  · rintro ⟨m, _, h⟩; simp at h
theorem take_succ_mem {α : Type} {l : List α} {i : Nat} {x d : α} (e : l[i]? = some x) : d ∈ l.take (i + 1) ↔ d ∈ l.take i ∨ d = x := by
  rw [List.take_add_one, e]
  simp
theorem gi_bump {R : List (List Dd)} {g : G} {m : Nat} {d : Dd} (I : GI R g) (hm : m < R.length) (e : (R.getD m [])[g.ats.getD m 0]? = some d) : GI R (bump g m d) := by
  have hml : m < g.ats.length := by rw [I.la]; exact hm
  have hlt : g.ats.getD m 0 < (R.getD m []).length := (List.getElem?_eq_some_iff.mp e).1
  refine ⟨by unfold bump; simp [I.la], fun j hj => ?_, fun x => ?_⟩
  · unfold bump
    simp only [getD_set hml]
    split
    · rename_i h; subst h; omega
    · exact I.le j hj
  · unfold bump
    simp only [getD_set hml, List.mem_append, List.mem_singleton, I.mem]
    constructor
    · rintro (⟨j, hj, hx⟩ | rfl)
      · refine ⟨j, hj, ?_⟩
        split
        · rename_i h; subst h; exact (take_succ_mem e).mpr (.inl hx)
        · exact hx
      · refine ⟨m, hm, ?_⟩
        rw [if_pos rfl]
        exact (take_succ_mem e).mpr (.inr rfl)
    · rintro ⟨j, hj, hx⟩
      split at hx
      · rename_i h
        subst h
        rcases (take_succ_mem e).mp hx with q | q
        · exact .inl ⟨_, hj, q⟩
        · exact .inr q
      · exact .inl ⟨j, hj, hx⟩
theorem gi_step {S : Nat} {R : List (List Dd)} {g : G} (I : GI R g) : GI R (step S R g) := by
  unfold step
  cases h : pick S R g with
  | none => exact I
  | some p =>
    obtain ⟨m, d⟩ := p
    obtain ⟨h1, h2⟩ := pick_some h
    exact gi_bump I h1 (able_some h2).1
theorem gi_run {S : Nat} {R : List (List Dd)} : ∀ n, GI R (run S R n)
  | 0 => gi_start
  | n + 1 => gi_step (gi_run n)

theorem take_mem_ix {α : Type} {l : List α} {i : Nat} {x : α} : x ∈ l.take i → ∃ j, j < i ∧ l[j]? = some x := fun h => by
  obtain ⟨j, hj, e⟩ := List.mem_iff_getElem.mp h
  rw [List.length_take] at hj
  refine ⟨j, by omega, ?_⟩
  rw [List.getElem_take] at e
  rw [List.getElem?_eq_getElem (by omega), e]
theorem nodup_at {α : Type} {l : List α} (hN : l.Nodup) {i j : Nat} {x : α} (a : l[i]? = some x) (b : l[j]? = some x) : i = j := by
  obtain ⟨h1, e1⟩ := List.getElem?_eq_some_iff.mp a
  obtain ⟨h2, e2⟩ := List.getElem?_eq_some_iff.mp b
  exact (List.getElem_inj hN).mp (e1.trans e2.symm)

/-- nothing bars the greedy order -/
theorem progress {S P : Nat} {o : List Dd} {g : G} (hP : 0 < P) (O : Ord S o) (I : GI (rowsOf P o) g) (hx : ∃ d ∈ o, d ∉ g.ord) : pick S (rowsOf P o) g ≠ none := by
  obtain ⟨i, d, e, hn, hpre⟩ := first_missing o g.ord hx
  intro hnone
  have hd : d.s % P < P := Nat.mod_lt _ hP
  have hdl : d.s % P < (rowsOf P o).length := by rw [rowsOf_len]; exact hd
  have hno := pick_none hnone _ hdl
  have hrow := rowsOf_at (o := o) hd
  -- o cut at i
  have hi : i < o.length := (List.getElem?_eq_some_iff.mp e).1
  have hcut : o = o.take i ++ d :: o.drop (i + 1) := by
    have h1 : o.drop i = d :: o.drop (i + 1) := by
      rw [List.drop_eq_getElem_cons hi]
      rw [List.getElem?_eq_getElem hi] at e
      rw [Option.some.inj e]
    rw [← h1, List.take_append_drop]
  have hon : onM P (d.s % P) d = true := decide_eq_true rfl
  have hfil : o.filter (onM P (d.s % P)) = (o.take i).filter (onM P (d.s % P)) ++ d :: (o.drop (i + 1)).filter (onM P (d.s % P)) := by
    conv => lhs; rw [hcut]
    rw [List.filter_append, List.filter_cons, if_pos hon]
  have hnd : (o.filter (onM P (d.s % P))).Nodup := O.nd.filter _
  have hposd : (o.filter (onM P (d.s % P)))[((o.take i).filter (onM P (d.s % P))).length]? = some d := by
    rw [hfil, List.getElem?_append_right (Nat.le_refl _)]
    simp
  -- where the machine stands
  have hat : g.ats.getD (d.s % P) 0 = ((o.take i).filter (onM P (d.s % P))).length := by
    have ale := I.le _ hdl
    rw [hrow] at ale
    rcases Nat.lt_trichotomy (g.ats.getD (d.s % P) 0) ((o.take i).filter (onM P (d.s % P))).length with h | h | h
    · -- an earlier deed of the row lacks
      exfalso
      have hx2 : ((o.take i).filter (onM P (d.s % P)))[g.ats.getD (d.s % P) 0]? = some ((o.take i).filter (onM P (d.s % P)))[g.ats.getD (d.s % P) 0] := List.getElem?_eq_getElem h
      have hx3 : (o.filter (onM P (d.s % P)))[g.ats.getD (d.s % P) 0]? = some ((o.take i).filter (onM P (d.s % P)))[g.ats.getD (d.s % P) 0] := by
        rw [hfil, List.getElem?_append_left h]
        exact hx2
      have hmemf := List.mem_filter.mp (List.getElem_mem h)
      obtain ⟨m, hm, hxm⟩ := (I.mem _).mp (hpre _ hmemf.1)
      have hmP : m < P := by rw [rowsOf_len] at hm; exact hm
      have hrm := rowsOf_at (o := o) hmP
      rw [hrm] at hxm
      have hmm : m = d.s % P := by
        have q := (List.mem_filter.mp (List.mem_of_mem_take hxm)).2
        have q1 := of_decide_eq_true q
        have q2 := of_decide_eq_true hmemf.2
        omega
      subst hmm
      obtain ⟨j, hj, ej⟩ := take_mem_ix hxm
      have := nodup_at hnd ej hx3
      omega
    · exact h
    · exfalso
      have : d ∈ (o.filter (onM P (d.s % P))).take (g.ats.getD (d.s % P) 0) := by
        refine List.mem_of_getElem? (i := ((o.take i).filter (onM P (d.s % P))).length) ?_
        rw [List.getElem?_take, if_pos h]
        exact hposd
      exact hn ((I.mem d).mpr ⟨_, hdl, by rw [hrow]; exact this⟩)
  have hab : able S (rowsOf P o) g.ats g.ord (d.s % P) = some d := able_of (by rw [hrow, hat]; exact hposd) fun n hn => hpre n (O.nb i d e n hn)
  rw [hno] at hab
  cases hab

/-- the greedy order holds distinct deeds of the drawn one -/
theorem ord_ok {S P : Nat} {o : List Dd} (O : Ord S o) : ∀ n, (run S (rowsOf P o) n).ord.Nodup ∧ ∀ d ∈ (run S (rowsOf P o) n).ord, d ∈ o
  | 0 => ⟨List.nodup_nil, fun d h => by simp [run] at h⟩
  | n + 1 => by
    obtain ⟨h1, h2⟩ := ord_ok (P := P) O n
    have I := gi_run (S := S) (R := rowsOf P o) n
    show (step S (rowsOf P o) (run S (rowsOf P o) n)).ord.Nodup ∧ ∀ d ∈ (step S (rowsOf P o) (run S (rowsOf P o) n)).ord, d ∈ o
    unfold step
    cases hp : pick S (rowsOf P o) (run S (rowsOf P o) n) with
    | none => exact ⟨h1, h2⟩
    | some p =>
      obtain ⟨m, d⟩ := p
      obtain ⟨hm, ha⟩ := pick_some hp
      obtain ⟨e, _⟩ := able_some ha
      have hmP : m < P := by rw [rowsOf_len] at hm; exact hm
      have hrow := rowsOf_at (o := o) hmP
      rw [hrow] at e
      have hdf := List.mem_filter.mp (List.mem_of_getElem? e)
      have hnd : (o.filter (onM P m)).Nodup := O.nd.filter _
      have hnot : d ∉ (run S (rowsOf P o) n).ord := fun hd => by
        obtain ⟨j, hj, hx⟩ := (I.mem d).mp hd
        have hjP : j < P := by rw [rowsOf_len] at hj; exact hj
        rw [rowsOf_at (o := o) hjP] at hx
        have q1 := of_decide_eq_true (List.mem_filter.mp (List.mem_of_mem_take hx)).2
        have q2 := of_decide_eq_true hdf.2
        have hjm : j = m := by omega
        subst hjm
        obtain ⟨i, hi, ei⟩ := take_mem_ix hx
        have := nodup_at hnd ei e
        omega
      refine ⟨?_, fun x hx => ?_⟩
      · show ((run S (rowsOf P o) n).ord ++ [d]).Nodup
        rw [List.nodup_append]
        refine ⟨h1, by simp, fun a haa b hb => ?_⟩
        rw [List.mem_singleton] at hb
        subst hb
        exact fun q => hnot (q ▸ haa)
      · have hx' : x ∈ (run S (rowsOf P o) n).ord ++ [d] := hx
        rcases List.mem_append.mp hx' with q | q
        · exact h2 x q
        · rw [List.mem_singleton.mp q]; exact hdf.1
theorem run_len {S P : Nat} {o : List Dd} (hP : 0 < P) (O : Ord S o) : ∀ n, n ≤ o.length → (run S (rowsOf P o) n).ord.length = n
  | 0, _ => rfl
  | n + 1, h => by
    have ih := run_len hP O n (by omega)
    have hp := progress hP O (gi_run (S := S) n) (exists_missing O.nd (by rw [ih]; omega))
    show (step S (rowsOf P o) (run S (rowsOf P o) n)).ord.length = _
    unfold step
    cases hq : pick S (rowsOf P o) (run S (rowsOf P o) n) with
    | none => exact absurd hq hp
    | some p =>
      obtain ⟨m, d⟩ := p
      show ((run S (rowsOf P o) n).ord ++ [d]).length = _
      rw [List.length_append, ih]
      rfl
theorem pick_moves {S P : Nat} {o : List Dd} (hP : 0 < P) (O : Ord S o) {n : Nat} (h : n < o.length) : pick S (rowsOf P o) (run S (rowsOf P o) n) ≠ none :=
  progress hP O (gi_run (S := S) n) (exists_missing O.nd (by rw [run_len hP O n (by omega)]; exact h))
theorem pick_ends {S P : Nat} {o : List Dd} (hP : 0 < P) (O : Ord S o) : pick S (rowsOf P o) (run S (rowsOf P o) o.length) = none := by
  cases hq : pick S (rowsOf P o) (run S (rowsOf P o) o.length) with
  | none => rfl
  | some p =>
    obtain ⟨m, d⟩ := p
    have e : run S (rowsOf P o) (o.length + 1) = bump (run S (rowsOf P o) o.length) m d := by
      show step S (rowsOf P o) (run S (rowsOf P o) o.length) = _
      unfold step
      rw [hq]
    obtain ⟨h1, h2⟩ := ord_ok (P := P) O (o.length + 1)
    have := nodup_sub_len h1 h2
    rw [e] at this
    have hl := run_len hP O o.length (Nat.le_refl _)
    have : ((run S (rowsOf P o) o.length).ord ++ [d]).length ≤ o.length := this
    rw [List.length_append, hl, List.length_singleton] at this
    omega
theorem step_some {S : Nat} {R : List (List Dd)} {n m : Nat} {d : Dd} (h : pick S R (run S R n) = some (m, d)) : run S R (n + 1) = bump (run S R n) m d := by
  show step S R (run S R n) = _
  unfold step
  rw [h]
theorem step_none {S : Nat} {R : List (List Dd)} {n : Nat} (h : pick S R (run S R n) = none) : run S R (n + 1) = run S R n := by
  show step S R (run S R n) = _
  unfold step
  rw [h]

/-! ### the drawing of an order -/
/-- the place of a deed on its portion's way -/
def pos (S : Nat) (d : Dd) : Nat := match d.f with
  | true => d.s
  | false => 2 * S - 1 - d.s
/-- the deed of portion k at place r -/
def deedAt (S k r : Nat) : Dd := if r < S then ⟨true, k, r⟩ else ⟨false, k, 2 * S - 1 - r⟩
structure Dr (S K : Nat) (r : List Nat) (o : List Dd) : Prop where
  len : r.length = K
  le : ∀ k, k < K → r.getD k 0 ≤ 2 * S
  mem : ∀ d, d ∈ o ↔ d.k < K ∧ d.s < S ∧ pos S d < r.getD d.k 0
  nd : o.Nodup
  nb : ∀ (i : Nat) (d : Dd), o[i]? = some d → ∀ n ∈ needD S d, n ∈ o.take i
  sum : o.length = r.sum
theorem dr_start {S K : Nat} : Dr S K (List.replicate K 0) [] := by
  have h0 : ∀ m, (List.replicate K 0).getD m 0 = 0 := fun m => by
    rw [List.getD_eq_getElem?_getD, List.getElem?_replicate]
    split <;> rfl
  refine ⟨by simp, fun k _ => by rw [h0]; exact Nat.zero_le _, fun d => ?_, List.nodup_nil, fun i d h => by simp at h, ?_⟩
  · constructor
    · intro h; simp at h
    · rintro ⟨_, _, h⟩; rw [h0] at h; omega
  · have : ∀ K : Nat, (List.replicate K 0).sum = 0 := fun K => by
      induction K with
      | zero => rfl
      | succ n ih => rw [List.replicate_succ, List.sum_cons, ih]
    rw [this]; rfl
theorem sum_set_nat : ∀ {l : List Nat} {j : Nat} {y : Nat}, j < l.length → (l.set j y).sum + l.getD j 0 = l.sum + y
  | [], j, y, h => by simp at h
  | a :: r, 0, y, h => by
    show (y :: r).sum + a = (a :: r).sum + y
    rw [List.sum_cons, List.sum_cons]
    omega
  | a :: r, j + 1, y, h => by
    have ih := sum_set_nat (l := r) (j := j) (y := y) (by simpa using h)
    show (a :: r.set j y).sum + r.getD j 0 = (a :: r).sum + y
    rw [List.sum_cons, List.sum_cons]
    omega
theorem pos_deedAt {S k r : Nat} (h : r < 2 * S) : pos S (deedAt S k r) = r ∧ (deedAt S k r).k = k ∧ (deedAt S k r).s < S := by
  unfold deedAt
  split
  · rename_i h1; exact ⟨rfl, rfl, h1⟩
  · rename_i h1
    refine ⟨?_, rfl, ?_⟩
    · show 2 * S - 1 - (2 * S - 1 - r) = r; omega
    · show 2 * S - 1 - r < S; omega
theorem pos_inj {S : Nat} {a b : Dd} (ha : a.s < S) (hb : b.s < S) (hk : a.k = b.k) (h : pos S a = pos S b) : a = b := by
  obtain ⟨f1, k1, s1⟩ := a
  obtain ⟨f2, k2, s2⟩ := b
  unfold pos at h
  simp only at ha hb hk
  subst hk
  cases f1 <;> cases f2 <;> simp only at h
  · have : s1 = s2 := by omega
    subst this; rfl
  · omega
  · omega
  · subst h; rfl
theorem need_pos {S : Nat} {d n : Dd} (hd : d.s < S) (h : n ∈ needD S d) : n.k = d.k ∧ n.s < S ∧ pos S n < pos S d := by
  obtain ⟨f, k, s⟩ := d
  unfold needD at h
  cases f
  · simp only at h hd
    split at h
    · rename_i h1
      rcases List.mem_cons.mp h with rfl | h
      · refine ⟨rfl, h1, ?_⟩
        show 2 * S - 1 - (s + 1) < 2 * S - 1 - s
        omega
      · rw [List.mem_singleton.mp h]
        refine ⟨rfl, hd, ?_⟩
        show s < 2 * S - 1 - s
        omega
    · rename_i h1
      rw [List.mem_singleton.mp h]
      refine ⟨rfl, hd, ?_⟩
      show s < 2 * S - 1 - s
      omega
  · simp only at h hd
    split at h
    · rename_i h1
      rw [List.mem_singleton.mp h]
      refine ⟨rfl, ?_, ?_⟩
      · show s - 1 < S; omega
      · show s - 1 < s; omega
    · simp at h
theorem dr_step {S K k : Nat} {r : List Nat} {o : List Dd} (D : Dr S K r o) (hk : k < K) (hr : r.getD k 0 < 2 * S) :
    Dr S K (r.set k (r.getD k 0 + 1)) (o ++ [deedAt S k (r.getD k 0)]) := by
  obtain ⟨p1, p2, p3⟩ := pos_deedAt (S := S) (k := k) hr
  have hkl : k < r.length := by rw [D.len]; exact hk
  have hnot : deedAt S k (r.getD k 0) ∉ o := fun h => by
    have := ((D.mem _).mp h).2.2
    rw [p1, p2] at this
    omega
  refine ⟨by rw [List.length_set]; exact D.len, fun j hj => ?_, fun d => ?_, ?_, fun i d e n hn => ?_, ?_⟩
  · rw [getD_set hkl]
    split
    · omega
    · exact D.le j hj
  · rw [getD_set hkl, List.mem_append, List.mem_singleton, D.mem]
    constructor
    · rintro (⟨h1, h2, h3⟩ | rfl)
      · refine ⟨h1, h2, ?_⟩
        split
        · rename_i q; rw [q] at h3; omega
        · exact h3
      · refine ⟨by rw [p2]; exact hk, p3, ?_⟩
        rw [p1, if_pos p2]
        omega
    · rintro ⟨h1, h2, h3⟩
      split at h3
      · rename_i q
        by_cases hp : pos S d = r.getD k 0
        · right
          exact pos_inj h2 p3 (by rw [p2]; exact q) (by rw [p1]; exact hp)
        · left
          refine ⟨h1, h2, ?_⟩
          rw [q]
          omega
      · exact .inl ⟨h1, h2, h3⟩
  · rw [List.nodup_append]
    refine ⟨D.nd, by simp, fun a ha b hb => ?_⟩
    rw [List.mem_singleton] at hb
    subst hb
    exact fun q => hnot (q ▸ ha)
  · by_cases hi : i < o.length
    · rw [List.getElem?_append_left hi] at e
      rw [List.take_append_of_le_length (Nat.le_of_lt hi)]
      exact D.nb i d e n hn
    · have hio : i = o.length := by
        have := (List.getElem?_eq_some_iff.mp e).1
        rw [List.length_append, List.length_singleton] at this
        omega
      subst hio
      rw [List.getElem?_append_right (Nat.le_refl _), Nat.sub_self] at e
      have ed : deedAt S k (r.getD k 0) = d := by simpa using e
      subst ed
      rw [List.take_append_of_le_length (Nat.le_refl _), List.take_length]
      obtain ⟨n1, n2, n3⟩ := need_pos p3 hn
      refine (D.mem n).mpr ⟨by rw [n1, p2]; exact hk, n2, ?_⟩
      rw [n1, p2, ← p1]
      exact n3
  · have := sum_set_nat (y := r.getD k 0 + 1) hkl
    rw [List.length_append, D.sum, List.length_singleton]
    omega
theorem sum_full : ∀ {r : List Nat} {c : Nat}, (∀ k, k < r.length → c ≤ r.getD k 0) → c * r.length ≤ r.sum
  | [], c, _ => by simp
  | a :: r, c, h => by
    have h0 : c ≤ a := h 0 (by simp)
    have ih := sum_full (r := r) (c := c) fun k hk => by
      have := h (k + 1) (by simpa using hk)
      simpa using this
    rw [List.sum_cons, List.length_cons, Nat.mul_succ]
    omega
/-- while deeds are left, a portion is -/
theorem dr_left {S K : Nat} {r : List Nat} {o : List Dd} (D : Dr S K r o) (h : o.length < 2 * S * K) : ∃ k, k < K ∧ r.getD k 0 < 2 * S := by
  by_cases hx : ∃ k, k < K ∧ r.getD k 0 < 2 * S
  · exact hx
  · have := sum_full (r := r) (c := 2 * S) fun k hk => by
      rw [D.len] at hk
      by_cases q : r.getD k 0 < 2 * S
      · exact absurd ⟨k, hk, q⟩ hx
      · omega
    rw [D.len, ← D.sum] at this
    omega
theorem dr_ord {S K : Nat} {r : List Nat} {o : List Dd} (D : Dr S K r o) : Ord S o ∧ ∀ d ∈ o, d.k < K :=
  ⟨⟨D.nd, fun d h => ((D.mem d).mp h).2.1, D.nb⟩, fun d h => ((D.mem d).mp h).1⟩

/-! ### all rows in one -/
theorem flat_len {P : Nat} (hP : 0 < P) (o : List Dd) : (rowsOf P o).flatten.length = o.length := by
  rw [List.length_flatten]
  exact sum_rows hP o
theorem flat_nd {S P : Nat} {o : List Dd} (O : Ord S o) : (rowsOf P o).flatten.Nodup := by
  unfold List.Nodup
  rw [List.pairwise_flatten]
  refine ⟨fun l hl => ?_, ?_⟩
  · obtain ⟨m, _, rfl⟩ := List.mem_map.mp hl
    exact O.nd.filter _
  · unfold rowsOf
    rw [List.pairwise_map]
    refine List.Pairwise.imp (fun {a b} hab => ?_) List.pairwise_lt_range
    intro x hx y hy e
    subst e
    have q1 := of_decide_eq_true (List.mem_filter.mp hx).2
    have q2 := of_decide_eq_true (List.mem_filter.mp hy).2
    omega
theorem map_pfx {α β : Type} (f : α → β) {l : List α} {i : Nat} {x : α} (h : l[i]? = some x) : (l.take (i + 1)).map f = (l.take i).map f ++ [f x] := by
  rw [List.take_add_one, h]
  simp
end K14
/-! ## K14Rules -/
/-! Rules of one's own over the hand layer: enumerate over a tuple, a call by keywords alone, repr and sorted of data, the law's def with the stack's guards told. -/
namespace K14
open PySem L2 PySem.Spec PyProof.Rows
abbrev St := L2.St

/-! ### enumerate(v) of a thing whose iterator is told by Begins -/
theorem enumNew {v : Value} {ob : Obj} {T : Heap → Prop} (B : Begins v ob T) :
    Meets (Builtin.«enumerate.__new__» ⟨[.type "enumerate", v], []⟩) (fun _ R z => T z.heap ∧
      R (.ok (.ret (.ref (z.heap.push ob).objs.size)))
        { z with heap := (z.heap.push ob).push { cls := .type "enumerate", data := .fields #[.none, .bool false, .ref z.heap.objs.size, rawInt 0, .none, .none] } }) :=
  .of_wp fun pr wo A R z hz => by
    obtain ⟨h0, gs, dr, k0, oss⟩ := z
    obtain ⟨hT, hR⟩ := hz
    have hsub := sub_enumerate
    have it : ∀ {A' : Around} {E : Value → Shared → Prop} {Q : Value → Shared → Prop}, Q (.ref h0.objs.size) ⟨h0.push ob, gs, dr, k0, oss⟩ →
        wpAny (model pr wo) A' (pyIter v) Q E ⟨h0, gs, dr, k0, oss⟩ := fun q => B.iter pr wo _ _ ⟨h0, gs, dr, k0, oss⟩ _ hT q
    wp_walk using it
    refine wpAny_stack_any fun stk => wpAny_pure ?_
    split
    · rename_i c _ _ _ _ _
      cases (c == Value.type "enumerate") <;> (wp_walk using it; exact ⟨_, rfl, hR⟩)
    · wp_walk using it
      exact ⟨_, rfl, hR⟩
theorem enumCall {prog : Program} {w : World} {A : Around} {E : Value → Shared → Prop} {s : Shared} {v : Value} {ob : Obj} {T : Heap → Prop} {Q : Value → Shared → Prop} (B : Begins v ob T) (hT : T s.heap)
    (h : ∀ h', IsEnum h' (s.heap.objs.size + 1) s.heap.objs.size 0 .none → h'.get? s.heap.objs.size = some ob →
      (∀ b o, s.heap.get? b = some o → h'.get? b = some o) → Q (.ref (s.heap.objs.size + 1)) { s with heap := h' }) :
    wpAny (model prog w) A (call (.type "enumerate") [v]) Q E s := by
  refine callType_new F.called_enumerate (by decide) (F.typeCall_enumerate_1 _) (F.newCall_enumerate_1 _)
    (fun obj => F.args_object_init_2 obj _) F.entry_enumerate_new (enumNew B) ⟨hT, ?_⟩
  have sz : (s.heap.push ob).objs.size = s.heap.objs.size + 1 := Heap.size_push ..
  show _ ∧ _
  rw [sz]
  have en : IsEnum ((s.heap.push ob).push { cls := .type "enumerate", data := .fields #[.none, .bool false, .ref s.heap.objs.size, rawInt 0, .none, .none] })
      (s.heap.objs.size + 1) s.heap.objs.size 0 .none := by
    have q := Heap.get?_push_size (s.heap.push ob) (o := { cls := .type "enumerate", data := .fields #[.none, .bool false, .ref s.heap.objs.size, rawInt 0, .none, .none] }) rfl
    rw [sz] at q
    exact q
  exact ⟨⟨_, en, rfl⟩, h _ en (Heap.get?_push_of_some _ (Heap.get?_push_size _ B.free)) fun b o x => Heap.get?_push_of_some _ (Heap.get?_push_of_some _ x)⟩

/-- the tuple at a as it stands at each turn, each item in a new pair -/
def IteT (K : PySem.W.Frag) (a : Addr) : It :=
  ⟨fun i H => ∃ (xs : List V) (x : V), SqT K H a xs ∧ xs[i]? = some x,
    fun i H v H' => ∃ T x, v = .ref T ∧ H T = none ∧ H' = upd H T (.tup [.int (i : Nat), x]) ∧ ∀ xs, SqT K H a xs → xs[i]? = some x,
    fun i H => ∃ xs : List V, SqT K H a xs ∧ xs.length = i⟩
theorem turn_enumT {P : Program} {w : World} {K : PySem.W.Frag} {elts : List Expr} {kk : Nat} {tpos : Pos} (a e it : Addr) :
    Turn P w K (.Tuple elts kk tpos) (IteT K a) [e, it] e
      (fun i h => (∃ old, IsEnum h e it ((i : Nat) : Int) old) ∧ h.IsTupleIter it a i ∧ e ≠ it ∧ a ≠ it ∧ e ≠ a) where
  mem := by simp
  obj := fun i h st b hb => by
    obtain ⟨⟨old, he⟩, ⟨o, ho, hc, hd⟩, _⟩ := st
    rcases (show b = e ∨ b = it by simpa using hb) with z | z
    · refine ⟨_, z ▸ he, fun v q => ?_⟩
      cases (show Data.fields _ = Data.cell v from q)
    · refine ⟨o, z ▸ ho, fun v q => ?_⟩
      rw [hd] at q
      cases q
  keep := fun i h h' st k => by
    obtain ⟨⟨old, he⟩, hi, hne⟩ := st
    exact ⟨⟨old, k e (by simp) _ he⟩, hi.at fun o q => k it (by simp) o q, hne⟩
  item := by
    intro X hP hw hK hc i pins s σ H E I hf st hg
    subst hP hw hK
    obtain ⟨⟨old, he⟩, hit, hne, hai, hea⟩ := st
    obtain ⟨xs, x, hq, hx⟩ := hg
    obtain ⟨its, rv, p, hz⟩ := I.tuple hq
    obtain ⟨u, hu, ru⟩ := rv.get hx
    have hel : e < s.heap.objs.size := Heap.lt_size he
    have hil : it < s.heap.objs.size := by
      obtain ⟨_, q, _⟩ := hit
      exact Heap.lt_size q
    have hlt : i < its.toArray.size := by
      have := (List.getElem?_eq_some_iff.mp hu).1
      simpa using this
    refine wpAny_pyNext_enum_itemD (Draws.tuple (A := X.A.in1) (I.ok.hd hc) it a hai its.toArray) he ⟨hit, p⟩ hlt hne (by simp [hne, hea]) fun y h' tk hy ho hst hT hsz hk => ?_
    have hyu : y = u := by
      have h1 : its[i]? = some y := by simpa using hy
      rw [hu] at h1
      exact (Option.some.inj h1).symm
    subst hyu
    refine ⟨_, rfl, wpAny_letOwnedTupleGo_enum (s := { s with heap := h', toks := tk + 1 }) ho fun h2 he2 sb => ?_⟩
    have hT2 : h2.get? s.heap.objs.size = some { cls := .type "tuple", data := .seq #[.int i tk, y] } := (sb.2 _ (Nat.ne_of_gt hel)).trans hT
    have new : ObjOk X.prog X.w (upd H s.heap.objs.size (.tup [.int (i : Nat), x])) h2 s.heap.objs.size (.tup [.int (i : Nat), x]) :=
      ⟨by show 2 ≤ sizeLine; decide, [.int i tk, y], .cons ⟨_, rfl⟩ (.cons ru .nil), ⟨_, hT2, rfl, _, rfl⟩⟩
    have I1 : Inv X pins σ (upd H s.heap.objs.size (.tup [.int (i : Nat), x])) { s with heap := h2, toks := tk + 1 } :=
      I.turnedNew (ch := [e, it]) (fun b ob hb q => by
        have n1 : b ≠ e := fun z => hb (by simp [z])
        have n2 : b ≠ it := fun z => hb (by simp [z])
        exact (sb.2 b n1).trans (hk b ob n1 n2 q)) hf (Nat.le_refl _) new
    refine ⟨.ref s.heap.objs.size, _, I1, rfl, ⟨_, x, rfl, I.hok.fresh (Nat.le_refl _), rfl, fun ys hy' => by rw [I.tuple_inj hy' hq]; exact hx⟩,
      ⟨⟨y, ?_⟩, hst.1.at fun o q => (sb.2 it (Ne.symm hne)).trans q, hne, hai, hea⟩, fun b hb => ?_⟩
    · have e1 : ((i + 1 : Nat) : Int) = (i : Int) + 1 := by omega
      rw [e1]
      exact he2
    · have hb' : b < s.heap.objs.size := by
        rcases (show b = e ∨ b = it by simpa using hb) with z | z
        · exact z ▸ hel
        · exact z ▸ hil
      rw [upd_ne (Nat.ne_of_lt hb')]
      exact (hf b hb).1
  done := by
    intro X hP hw hK hc i pins s σ H E I hf st hg
    subst hP hw hK
    obtain ⟨⟨old, he⟩, hit, hne, hai, hea⟩ := st
    obtain ⟨xs, hq, hx⟩ := hg
    obtain ⟨its, rv, p, hz⟩ := I.tuple hq
    obtain ⟨f0, f1, f2, f3, f4, f5⟩ := hf it (by simp)
    have hl := rv.length
    have hsz : its.toArray.size = i := by
      rw [List.size_toArray, ← hl, hx]
    refine wpAny_pyNext_enum_endD (Draws.tuple (A := X.A.in1) (I.ok.hd hc) it a hai its.toArray) he ⟨by rw [hsz]; exact hit, p⟩ fun h' eb => ?_
    exact ⟨rfl, I.turned (t' := s.toks) (fun b o hb q => eb b o hb q) f0 f1 f3 f4 f5⟩
  self := fun A i s Q E st h => by
    obtain ⟨⟨_, he⟩, _⟩ := st
    exact wpAny_pyIter_enum he h

def iEnumT (K : PySem.W.Frag) (ta : TA) : TI := fun σ H R => ta σ H fun vs H1 => ∃ a xs, vs = [.ref a] ∧ SqT K H1 a xs ∧ R (IteT K a) H1
/-- for i, x in enumerate(t), t a tuple -/
theorem pi_enumT {X : Cx} {e : Expr} {ta : TA} {p pos tpos : Pos} {elts : List Expr} {kk : Nat} (hg : Gl X "enumerate") (hm : X.mg "enumerate" = none) (ha : PA X [e] ta)
    (hs : starEach [e] X.env = [(false, eval e X.env)] := by rfl) : PI X (.Tuple elts kk tpos) (.Call (.Name "enumerate" p) [e] [] pos) (iEnumT X.K ta) := by
  refine ⟨fun pins s σ H R I h => ?_⟩
  refine Call_ (ld_blt I hg hm boot_enumerate (PyProof.Rows.callWith_type1 (thn (ha.run pos pins s σ H _ I h) fun us s1 q0 => ?_) hs rfl))
  obtain ⟨vs, H1, I1, r1, a, xs, ex, hq, q⟩ := q0
  subst ex
  obtain ⟨u, rfl, ru⟩ := vals1 r1
  obtain rfl : u = Value.ref a := ru
  obtain ⟨its, rv, pt, hz⟩ := I1.tuple hq
  have hal : a < s1.heap.objs.size := by
    obtain ⟨o, ho, _⟩ := pt
    exact Heap.lt_size ho
  refine enumCall (begins_tuple a its.toArray) pt fun h' he hit hk => wpAny_pyIter_enum he ?_
  have I2 : Inv X pins σ H1 { s1 with heap := h' } := I1.kept (t' := s1.toks) hk
  refine ⟨s1.heap.objs.size + 1, [s1.heap.objs.size + 1, s1.heap.objs.size], _, _, H1, rfl, I2, turn_enumT a (s1.heap.objs.size + 1) s1.heap.objs.size,
    ⟨⟨.none, he⟩, ⟨_, hit, rfl, rfl⟩, Nat.succ_ne_self _, Nat.ne_of_lt hal, Nat.ne_of_gt (Nat.lt_succ_of_lt hal)⟩, fun b hb => ?_, q⟩
  have hle : s1.heap.objs.size ≤ b := by
    rcases (show b = s1.heap.objs.size + 1 ∨ b = s1.heap.objs.size by simpa using hb) with z | z
    · exact z ▸ Nat.le_succ _
    · exact z ▸ Nat.le_refl _
  exact I1.fpOk hle (I1.hok.fresh hle)
/-- the loop over it, the tuple standing still -/
theorem for_enumT {K : PySem.W.Frag} {a : Addr} {xs : List V} {g : TG} {tb : TS} {D : Ends} {σ : St} {H : Hp} (Pv : Nat → St → Hp → Prop) (h0 : Pv 0 σ H) (hl : ∀ i σ H, i ≤ xs.length → Pv i σ H → SqT K H a xs)
    (hs : ∀ i x σ H p, xs[i]? = some x → Pv i σ H → H p = none → g (.ref p) σ (upd H p (.tup [.int (i : Nat), x])) fun σ2 H2 => tb { D with nx := Pv (i + 1), ct := Pv (i + 1), bk := D.nx } σ2 H2)
    (hd : ∀ σ H, Pv xs.length σ H → D.nx σ H) :
    ∃ W : Nat → Nat → St → Hp → Prop, (∃ m, W 0 m σ H) ∧ ∀ i m σ H, W i m σ H → ((IteT K a).stop i H ∧ D.nx σ H) ∨
      ((IteT K a).go i H ∧ ∃ N : St → Hp → Prop, (∀ σ' H', N σ' H' → ∃ m', m' < m ∧ W (i + 1) m' σ' H') ∧
        ∀ x H', (IteT K a).yld i H x H' → g x σ H' fun σ2 H2 => tb { D with nx := N, ct := N, bk := D.nx } σ2 H2) := by
  refine ⟨fun i m σ H => m = xs.length - i ∧ i ≤ xs.length ∧ Pv i σ H, ⟨_, rfl, Nat.zero_le _, h0⟩, ?_⟩
  rintro i m σ H ⟨rfl, hi, pv⟩
  have q := hl i σ H hi pv
  rcases Nat.lt_or_ge i xs.length with hlt | hge
  · refine .inr ⟨⟨xs, xs[i], q, List.getElem?_eq_getElem hlt⟩, Pv (i + 1), fun σ' H' p' => ⟨xs.length - (i + 1), by omega, rfl, hlt, p'⟩, ?_⟩
    rintro v H' ⟨T, x, rfl, hT, rfl, hx⟩
    exact hs i x σ H T (hx xs q) pv hT
  · have e : i = xs.length := Nat.le_antisymm hi hge
    exact .inl ⟨⟨xs, q, e.symm⟩, hd σ H (e ▸ pv)⟩

/-! ### f(k = v, ..), no positional argument -/
theorem pe_callN0 {X : Cx} {CX : CXT} {k : Nat} {f : Addr} {fd : FuncData} {ps ks : List Str} {sp : Sp} {E : XK} {x : Str} {p pos : Pos} {kws : List Keyword} {tk : TA} {g : List Value → List Value → List Value} {gV : List V → List V → List V}
    (F : FnOk X.prog X.w X.K X.mg X.base CX k f fd ps sp) (hr : Room k X.A) (hg : Gl X x) (hm : X.mg x = some (.ref f)) (hk : PySem.W.keepIn X.K (.ref f) = true) (hb : KBn X.K fd ps 0 ks g gV) (hx : Passes CX X E)
    (hkw : PK X kws tk) (hall : (backToKw pos (keywordEach kws X.env)).all (·.1.isSome) = true := by rfl) (hks : (backToKw pos (keywordEach kws X.env)).filterMap (·.1) = ks := by rfl)
    (hdb : (x == ("__debug__" : Str)) = false := by decide)
    (hpl : ((backTo pos (starEach [] X.env)).any (·.1) || (backToKw pos (keywordEach kws X.env)).any (·.1.isNone)) = false := by rfl) :
    PE X (.Call (.Name x p) [] kws pos) (tCallN 0 ks.length sp gV E tNil tk) := by
  refine ⟨fun pins s σ H Q I h => ?_⟩
  refine wpAny_Call_Name_kw (ld_glob I hg hm ?_ hdb)
  refine PySem.W.callWith_KW0 (h₀ := X.base) I.ok.mod.kin hk hall ?_ hpl
  refine thn (hkw.run pos pins s σ H _ I h) fun ws s2 ⟨zs, H2, I2, rz, l1, l2, q2⟩ => ⟨I2.kIn, ?_⟩
  rw [hks]
  exact run_fnN (us := []) (vs := []) F hr hb hx I2 .nil rz l1 l2 q2
/-- how keywords alone bind (no defaults) -/
theorem kbn_of {K : PySem.W.Frag} {x qual : Str} {st : Stmt} {f : Addr} {fd : FuncData} {ps ks : List Str} (F : Fun K x qual st f fd)
    (h : ∀ (kV doc pm : Value) (an : Option Addr) (cdv ct : Value) (ws : List Value), ws.length = ks.length → bindArgs (PySem.W.fnOf x qual (defArgs st) (defBody st) (defScope st) .none kV doc pm an cdv ct) ⟨[], ks.zip ws⟩ = pure (ps.zip ws)) :
    KBn K fd ps 0 ks (fun _ ws => ws) (fun _ zs => zs) := by
  obtain ⟨oc, od, kV, doc, pm, an, cdv, ct, osl, rfl, lk, hcd⟩ := F.ex
  refine ⟨fun s us ws _ l1 l2 => ?_, fun _ r => r⟩
  cases us with
  | nil => exact .of_eq (h kV doc pm an cdv ct ws l2)
  | cons _ _ => cases l1

/-! ### repr(x) of nested tuples and lists -/
def rRepr (K : PySem.W.Frag) : List V → Hp → VK → Prop := fun xs H Q => ∃ (a : Addr) (d : PyData), xs = [.ref a] ∧ Dp K H (.ref a) d ∧ d.showable = true ∧ d.hasDict = false ∧ d.shown.length ≤ sizeLine ∧ d.depth ≤ 32 ∧ Q (.str d.shown) H
theorem call_repr {X : Cx} (hg : X.A.guards = some []) (hu : X.A.units + 64 < cLine) : CallR X (.builtin "repr") (rRepr X.K) := by
  intro pins s σ H xs us Q I r h
  obtain ⟨a, d, rfl, hd, hs, hn, hz, hp, q⟩ := h
  obtain ⟨u, rfl, ru⟩ := vals1 r
  obtain rfl : u = Value.ref a := ru
  obtain ⟨as, rd⟩ := Dp.reads I d (.ref a) (.ref a) hd rfl
  exact repr_of_reads' rd hs (PyData.noDict_hsm hn) hg (by omega) (fun _ _ e => e) (fun h' u tk hk => ⟨.str d.shown, H, I.kept hk, ⟨_, rfl⟩, q⟩) hz

/-! ### sorted(xs) of data that stand in order already -/
def rSortD (K : PySem.W.Frag) : List V → Hp → VK → Prop := fun xs H Q => ∃ (l : Addr) (bs : List (Addr × PyData)), xs = [.ref l] ∧ SqL K H l (bs.map fun b => V.ref b.1) ∧ (∀ b ∈ bs, Dp K H (.ref b.1) b.2 ∧ b.2.depth ≤ 32) ∧
  PySem.W.AllAlike (bs.map (·.2)) ∧ PySem.W.Sortable (bs.map (·.2)) ∧ bs.Pairwise (fun a b => PySem.W.dataLe false (fun z : Addr × PyData => z.2) a b = true) ∧
  ∀ p, H p = none → Q (.ref p) (upd H p (.lst (bs.map fun b => V.ref b.1)))
theorem each_refs {X : Cx} {pins : List (Addr × Obj)} {s : Shared} {σ : St} {H : Hp} (I : Inv X pins σ H s) : ∀ {bs : List (Addr × PyData)} {us : List Value}, Vals (bs.map fun b => V.ref b.1) us → (∀ b ∈ bs, Dp X.K H (.ref b.1) b.2 ∧ b.2.depth ≤ 32) →
    PySem.W.EachIs (fun v b => v = Value.ref b.1) us bs ∧ PySem.W.EachIs (fun v b => ∃ as, Reads s.heap v b.2 as) us bs
  | [], us, r, _ => by
    cases r
    exact ⟨.nil, .nil⟩
  | b :: bs, us, r, h => by
    cases r with
    | @cons _ u _ us' r1 r2 =>
      obtain ⟨i1, i2⟩ := each_refs I r2 fun c hc => h c (List.mem_cons_of_mem _ hc)
      have e : u = Value.ref b.1 := r1
      exact ⟨.cons e i1, .cons (Dp.reads I b.2 (.ref b.1) u (h b List.mem_cons_self).1 r1) i2⟩
theorem vals_each : ∀ {bs : List (Addr × PyData)} {us : List Value}, PySem.W.EachIs (fun v b => v = Value.ref b.1) us bs → Vals (bs.map fun b => V.ref b.1) us
  | [], _, .nil => .nil
  | _ :: _, _, .cons h t => .cons h (vals_each t)
theorem call_sortedD {X : Cx} (hu : X.A.units + 64 < cLine) : CallR X (.builtin "sorted") (rSortD X.K) := by
  intro pins s σ H xs us Q I r h
  obtain ⟨l, bs, rfl, hl, hd, hal, hk, hp, q⟩ := h
  obtain ⟨u, rfl, ru⟩ := vals1 r
  obtain rfl : u = Value.ref l := ru
  obtain ⟨its, rv, pl, hz⟩ := I.list hl
  obtain ⟨e1, e2⟩ := each_refs I rv hd
  have hz' : bs.length ≤ sizeLine := by rw [List.length_map] at hz; exact hz
  refine PySem.W.sorted_data (enc := fun z : Addr × PyData => z.2) pl.isList e1 e2 hal hk hz' (fun b hb => ?_) fun out ho eo => ?_
  · have := (hd b hb).2
    show X.A.units + 2 + b.2.depth < cLine
    omega
  · rw [List.mergeSort_of_pairwise hp] at eo
    have rv2 := vals_each eo
    obtain ⟨m, F⟩ := I.fr
    obtain ⟨c, _, N, _, keep⟩ := PySem.W.sorted_news F (news_all (g := X.base) (L := X.env.locals)) its out
    have hD := (N (s.heap.objs.size + 1, PySem.W.listOf out.toArray c) List.mem_cons_self).1
    have hn : H (s.heap.objs.size + 1) = none := I.hok.fresh (Nat.le_succ _)
    have new : ObjOk X.prog X.w (upd H (s.heap.objs.size + 1) (.lst (bs.map fun b => V.ref b.1))) (PyProof.Rows.sortedAll s.heap its out.toArray) (s.heap.objs.size + 1) (.lst (bs.map fun b => V.ref b.1)) := ⟨hz, out, c, rv2, hD⟩
    exact ⟨.ref (s.heap.objs.size + 1), _, I.laid (t' := s.toks) keep (Nat.le_succ _) new, rfl, q _ hn⟩

/-! ### the law's own def, run where the stack holds no guard -/
theorem lawRun {P : Program} {w : World} {K : PySem.W.Frag} {mg : Str → Option Value} {base : Heap} {x qual : Str} {st : Stmt} {f : Addr} {fd : FuncData} {N ps : List Str} {k : Nat} {sp : Sp} (F : Fun K x qual st f fd) (S : FnScope N ps (defScope st))
    (len : ∀ vs H Q E, sp vs H Q E → vs.length = ps.length)
    (body : ∀ (cdv : Value) (A : Around) (outer : List Env) (s : Shared) (H : Hp) (vs : List V) (Q : VK) (E : XK), (A.deeper (envOfC qual (defScope st) s.heap.objs.size f cdv)).guards = some [] →
      Room k (A.deeper (envOfC qual (defScope st) s.heap.objs.size f cdv)) → sp vs H Q E →
      ∃ t, PSs (cxOf CX0 P w K mg base N qual (defScope st) f cdv A outer s H E).nox (defBody st) t ∧ t { nx := fun _ H' => Q .non H', rt := Q } (start N vs) H)
    {A : Around} {outer : List Env} {s : Shared} {H : Hp} {args : Args} {us : List Value} {vs : List V} {Q : VK} {E : XK} (hg : A.guards = some []) (hr : Room (k + 1) A) (e0 : Env0 P w K mg base A outer s H)
    (hb : BindsTo s fd args (ps.zip us)) (r : Vals vs us) (hsp : sp vs H Q E) : codeAny (model P w) A (.call (.ref f) args) (CR CX0 outer P w H s Q E) s := by
  obtain ⟨oc, od, kV, doc, pm, an, cdv, ct, osl, rfl, lk, hcd⟩ := F.ex
  have hl := len _ _ _ _ hsp
  have KX : K.In s.heap := e0.mod.kin.keeps fun b o e => (e0.bs b o e).1
  have kinds : ∀ y ∈ ps.zip us, (defScope st).names.lookup y.1 = some .local ∨ ((defScope st).names.lookup y.1 = some .cell ∧ ((cellsFrom (s.heap.objs.size + 1) (defScope st).names []).lookup y.1).isSome = true) := by
    rintro ⟨n, v⟩ hy
    exact (S.par n (List.of_mem_zip hy).1).imp id fun q => ⟨q, PySem.W.cellsFrom_some _ _ _ (.inl q)⟩
  refine codeAny_call_function hr.depth (KX _ _ lk) rfl S.co S.gen rfl (PySem.W.codeRec_of KX hcd) (hb _ _ _ _ (wpAny_newFunctionEnv_cells S.kind kinds fun env he s1 x => ?_))
  subst he
  refine ⟨(e0.mod.nolimit.keeps fun b o e => (e0.bs b o e).1).keeps x.toInCall.keep, codeAny_func ?_⟩
  obtain ⟨t, ht, hq⟩ := body cdv A outer s H vs Q E hg (hr.deeper _) hsp
  have I0 : Inv (cxOf CX0 P w K mg base N qual (defScope st) f cdv A outer s H E) [] (start N vs) H s1 := inv_start S hr.hd e0 hl r x
  refine wpAny_mono (ht.nox.run [] s1 (start N vs) H _ I0 hq) (fun fl s' hs => ?_) fun e s' hs => hs
  cases fl with
  | ret u =>
    obtain ⟨v, σ', H', J, rv, q⟩ := hs
    exact ⟨v, H', J.os, J.bare, J.base, J.hok, rv, q⟩
  | next =>
    obtain ⟨σ', H', J, q⟩ := hs
    exact ⟨.non, H', J.os, J.bare, J.base, J.hok, rfl, q⟩
  | brk =>
    obtain ⟨_, _, _, q⟩ := hs
    exact q.elim
  | cont =>
    obtain ⟨_, _, _, q⟩ := hs
    exact q.elim

/-! ### rules within a comprehension's block: the written part by its own name -/
theorem tupleT_at {X : Cx} {K : PySem.W.Frag} (hK : X.K = K) : CallR X (.type "tuple") (fun xs H Q => ∃ a ys, xs = [.ref a] ∧ SqT K H a ys ∧ Q (.ref a) H) := by
  subst hK
  exact call_tupleT
theorem tupleOf_at {X : Cx} {K : PySem.W.Frag} (hK : X.K = K) :
    CallR X (.type "tuple") (fun xs H Q => ∃ p ys, xs = [.ref p] ∧ ((SqL K H p ys ∧ ∀ l, H l = none → Q (.ref l) (upd H l (.tup ys))) ∨ (SqT K H p ys ∧ Q (.ref p) H))) := by
  subst hK
  exact call_tuple_of
theorem piTup_at {X : Cx} {K : PySem.W.Frag} {tg l : Expr} {tl : TE} (hK : X.K = K) (hl : PE X l tl) : PI X tg l (iTup K tl) := by
  subst hK
  exact pi_tup hl
theorem len_at {X : Cx} {K : PySem.W.Frag} (hK : X.K = K) : CallR X (.builtin "len") (fun xs H Q => ∃ p ys, xs = [.ref p] ∧ (SqL K H p ys ∨ SqT K H p ys) ∧ Q (.int ys.length) H) := by
  subst hK
  exact call_len_seq
theorem ixL_at {X : Cx} {K : PySem.W.Frag} (hK : X.K = K) : IxR X (rIxL K) := by
  subst hK
  exact ix_list
theorem ixT_at {X : Cx} {K : PySem.W.Frag} (hK : X.K = K) : IxR X (rIxT K) := by
  subst hK
  exact ix_tup
end K14
/-! ## K14End -/
/-! The end of the law's row where the law's def is run at callerA alone (its stack holds no guard). -/
namespace K14
open PySem L2 PySem.Spec PyProof.Rows

/-- what the law's call is to give, over every base -/
abbrev CallsAt (P : Program) (w : World) (K : PySem.W.Frag) (mg : Str → Option Value) (fa : Addr) (sp : Sp) : Prop :=
  ∀ base : Heap, K.In base → base.Ns mainGlobals mg → ∀ (s : Shared) (H : Hp) (a : Addr) (Q : VK), Env0 P w K mg base callerA [] s H → sp [.ref a] H Q E0 →
    codeAny (model P w) callerA (.call (.ref fa) ⟨[.ref a], []⟩) (CR CX0 [] P w H s Q E0) s
theorem hid_keeps {h : Heap} {H : Hp} {K : PySem.W.Frag} (KX : K.In h) (no : ∀ b o, K.lookup b = some o → H b = none) : K.In (hidT h H) := fun b o e => hidT_get (KX b o e) (no b o e)
theorem callAt {P : Program} {w : World} {K : PySem.W.Frag} {mg mb : Str → Option Value} {fa a : Addr} {sp : Sp} {s₁ : Shared} {vs : List Value} {ns : List Int}
    (KX : K.In s₁.heap) (hns : s₁.heap.Ns mainGlobals mg) (hb : s₁.heap.Ns builtinsNs mb) (hbb : ∀ x : Str, x ≠ "__name__" → mb x = bootBuiltins x) (hlim : s₁.heap.NoLimit) (hg : s₁.gens = #[])
    (ha : s₁.heap.get? a = some { cls := .type "list", data := .seq vs.toArray }) (hi : IntsAre vs ns) (hl : ns.length ≤ sizeLine) (F : CallsAt P w K mg fa sp)
    (hsp : ∀ H : Hp, Only H → SqL K H a (ns.map V.int) → sp [.ref a] H (fun v _ => v = .bl true) E0) :
    codeAny (model P w) callerA (.call (.ref fa) ⟨[.ref a], []⟩) (fun r s' => r = .ok (.ret (.bool true)) ∧ OldK s₁.heap s'.heap ∧ s'.os = s₁.os ∧ AllBare s'.gens) s₁ := by
  have rv := vals_ints hi
  -- over one abstract heap
  have go : ∀ H : Hp, Only H → SqL K H a (ns.map V.int) → HOk P w H s₁.heap → (∀ b, H b ≠ none → b = a ∧ K.lookup b = none) →
      codeAny (model P w) callerA (.call (.ref fa) ⟨[.ref a], []⟩) (fun r s' => r = .ok (.ret (.bool true)) ∧ OldK s₁.heap s'.heap ∧ s'.os = s₁.os ∧ AllBare s'.gens) s₁ := by
    intro H hO hS ok only
    have free : ∀ b, (b = a → False) → H b = none := fun b hne => by
      cases q : H b with
      | none => rfl
      | some u => exact (hne (only b (by rw [q]; simp)).1).elim
    have nsK : ∀ {b : Addr} {m : Str → Option Value}, s₁.heap.Ns b m → (hidT s₁.heap H).Ns b m := by
      rintro b m ⟨o, es, ep, e, d, r⟩
      refine ⟨o, es, ep, hidT_get e (free b fun q => ?_), d, r⟩
      rw [q, ha] at e
      cases e
      exact nomatch (show Data.seq vs.toArray _ = Data.dict es ep from d)
    have kin : K.In (hidT s₁.heap H) := hid_keeps KX fun b o e => by
      cases q : H b with
      | none => rfl
      | some u =>
        have := (only b (by rw [q]; simp)).2
        rw [e] at this
        cases this
    have md : Mod K mg (hidT s₁.heap H) := by
      obtain ⟨mc, l1, l2⟩ := hlim
      exact ⟨kin, nsK hns, ⟨mb, nsK hb, hbb⟩, ⟨mc, nsK l1, l2⟩⟩
    have e0 : Env0 P w K mg (hidT s₁.heap H) callerA [] s₁ H :=
      ⟨rfl, md, fun b o e => of_hidT e, Nat.le_of_eq (hidT_size _ _), trivial, fun b z => absurd (show b ∈ ([] : List Addr) from z) (by simp), ok, .of_eq hg⟩
    refine codeAny_mono (F _ kin (nsK hns) s₁ H a _ e0 (hsp H hO hS)) fun r s' hr => ?_
    cases r with
    | error e => exact False.elim hr
    | ok fl =>
      cases fl with
      | next => exact False.elim hr
      | brk => exact False.elim hr
      | cont => exact False.elim hr
      | ret u =>
        obtain ⟨v, H', os, bare, un, ok', r', q⟩ := hr
        cases (show v = V.bl true from q)
        cases (show u = Value.bool true from r')
        refine ⟨rfl, OldK.of_keep fun b o e => ?_, os, bare⟩
        rcases hO b with z | ⟨ob, xs, z⟩
        · exact un.keep b o e z (fun y => absurd (show b ∈ ([] : List Addr) from y) (by simp)) (by simp)
        · obtain ⟨e1, _⟩ := ok b _ z
          obtain ⟨e2, _⟩ := ok' b _ (un.frzs b ob _ z)
          rw [e] at e1
          cases e1
          exact e2
  cases hk : K.lookup a with
  | some o =>
    have e := KX a o hk
    rw [ha] at e
    cases e
    refine go (fun _ => none) (fun _ => .inl rfl) (.inr ⟨_, vs.toArray, _, hk, rfl, rfl, rfl, ?_, by simpa using rv⟩) (fun b u z => ?_) fun b z => absurd rfl z
    · rw [List.size_toArray, hi.length]
      exact hl
    · exact nomatch (show (none : Option HO) = some u from z)
  | none =>
    let scr : HO := .frz { cls := .type "list", data := .seq vs.toArray } (.lst (ns.map V.int))
    refine go (fun b => if b = a then some scr else none) (fun b => ?_) (.inl (.inr ⟨{ cls := .type "list", data := .seq vs.toArray }, if_pos rfl⟩)) (fun b u z => ?_) fun b z => ?_
    · by_cases c : b = a
      · exact .inr ⟨_, _, if_pos c⟩
      · exact .inl (if_neg c)
    · by_cases c : b = a
      · cases (if_pos c).symm.trans z
        subst c
        exact ⟨ha, by rw [List.length_map]; exact hl, vs, _, rv, ha⟩
      · cases (if_neg c).symm.trans z
    · by_cases c : b = a
      · exact ⟨c, c ▸ hk⟩
      · exact absurd (if_neg c) z
/-- the goal that the head leaves -/
theorem walkAt {l : PySem.W.OpenLaw} {n : Nat} {q : Program} {loose : List Str} {XP : (Str → Option Value) → Heap → Prop} {YP : World → Heap → Prop} {d : DefRec} {K : Params → PySem.W.Frag} {sp : PySem.W.Frag → Sp}
    (hn : l.most = some n) (hn2 : n ≤ sizeLine) (hdf : d.params.defaults = []) (hY : ∀ (w : World) (h : Heap), YP w h → (K w.params).In h)
    (F : ∀ (w : World) (mg : Str → Option Value) (fa : Addr) (h : Heap), (K w.params).In h → h.Ns mainGlobals mg → mg d.name = some (.ref fa) → CallsAt l.prog w (K w.params) mg fa (sp (K w.params)))
    (hsp : ∀ (K : PySem.W.Frag) (H : Hp) (a : Addr) (ns : List Int), ns.length ≤ n → Only H → SqL K H a (ns.map V.int) → sp K [.ref a] H (fun v _ => v = .bl true) E0) :
    PySem.W.WalkO q loose XP YP l.row.toRowW d [] (fun f vs => PySem.call f vs) := by
  refine Att.attach_call hn hdf fun w s₀ s₁ mg mb fa o pm cd doc a vs ns G Y _ _ _ hmg hobj hints hlen hg => ?_
  exact callAt (hY w _ Y) G.T.g G.T.b G.T.builtins G.T.nolimit hg hobj hints (Nat.le_trans hlen hn2) (F w mg fa _ (hY w _ Y) G.T.g hmg) fun H hO hS => hsp _ H a ns hlen hO hS
end K14
/-! ## K14Txt -/
/-! The program's text by places, what the walk asks of the top, the data: deeds and rows in the abstract heap. -/
namespace K14
open PySem L2 PySem.Spec PyProof.Rows

def topS (i : Nat) : Stmt := PySem.Challenge.pw_stagesfull_k14_needs_and_orders.main.body.getD i (.Pass ⟨0, 0, 0, 0⟩)
abbrev sBetween : Stmt := topS 5
abbrev sRow : Stmt := topS 6
abbrev sSizes : Stmt := topS 11
abbrev sDeed : Stmt := topS 12
abbrev sNeeded : Stmt := topS 13
abbrev sAreRows : Stmt := topS 14
abbrev sOrderly : Stmt := topS 15
abbrev sInit : Stmt := inClass (topS 16) 0
abbrev sNeeds : Stmt := topS 17
abbrev sSome : Stmt := topS 18
abbrev lDraws : Stmt := topS 20
abbrev lTake : Stmt := topS 21
abbrev lNeeded : Stmt := topS 22
abbrev lSizes : Stmt := topS 23
abbrev lDrawn : Stmt := topS 24
abbrev lRows : Stmt := topS 25
abbrev lOrdered : Stmt := topS 26
abbrev lLaw : Stmt := topS 27

/-- the built-in names are the built-ins still; the module's three numbers -/
structure Tx (mg : Str → Option Value) : Prop where
  isi : mg "isinstance" = none
  int : mg "int" = none
  bool : mg "bool" = none
  list : mg "list" = none
  tuple : mg "tuple" = none
  str : mg "str" = none
  len : mg "len" = none
  enum : mg "enumerate" = none
  all : mg "all" = none
  range : mg "range" = none
  abs : mg "abs" = none
  max : mg "max" = none
  min : mg "min" = none
  sum : mg "sum" = none
  repr : mg "repr" = none
  sorted : mg "sorted" = none
  mm : ∃ t, mg "MOST_MACHINES" = some (.int 4 t)
  ms : ∃ t, mg "MOST_STAGES" = some (.int 12 t)
  mp : ∃ t, mg "MOST_PORTIONS" = some (.int 8 t)

/-- a def of the module, called by its name -/
structure Def (P : Program) (w : World) (K : PySem.W.Frag) (mg : Str → Option Value) (base : Heap) (x : Str) (k : Nat) (ps : List Str) (sp : Sp) : Prop where
  ex : ∃ (f : Addr) (fd : FuncData), FnOk P w K mg base CX0 k f fd ps sp ∧ mg x = some (.ref f) ∧ PySem.W.keepIn K (.ref f) = true ∧ Binds K fd ps []
theorem pe_def {X : Cx} {x : Str} {k : Nat} {ps : List Str} {sp : Sp} {p pos : Pos} {e : Expr} {es : List Expr} {t : TA} (D : Def X.prog X.w X.K X.mg X.base x k ps sp) (hr : Room k X.A) (hg : Gl X x) (ha : PA X (e :: es) t)
    (hdb : (x == ("__debug__" : Str)) = false := by decide) (he : starEach (e :: es) X.env = (false, eval e X.env) :: starEach es X.env := by rfl) (hpl : (backTo pos (starEach es X.env)).any (·.1) = false := by rfl) :
    PE X (.Call (.Name x p) (e :: es) [] pos) (tCall sp [] E0 t) := by
  obtain ⟨f, fd, F, hm, hk, hb⟩ := D.ex
  exact pe_call F hr hg hm hk hb .nil pass0 ha hdb he hpl

/-! ### the data -/
def wy (f : Bool) : Str := if f then "f" else "b"
def dv (d : Dd) : List V := [.str (wy d.f), .int (d.k : Int), .int (d.s : Int)]
def keyOf (d : Dd) : List Key := [.inr (wy d.f), .inl (d.k : Int), .inl (d.s : Int)]
theorem keyOf_kV (d : Dd) : (keyOf d).map kV = dv d := rfl
theorem wy_ne : ¬ (wy true = wy false) := by decide +kernel
theorem wy_inj : ∀ {a b : Bool}, wy a = wy b → a = b
  | true, true, _ => rfl
  | false, false, _ => rfl
  | true, false, h => absurd h wy_ne
  | false, true, h => absurd h.symm wy_ne
theorem dv_inj {a b : Dd} (h : dv a = dv b) : a = b := by
  obtain ⟨f1, k1, s1⟩ := a
  obtain ⟨f2, k2, s2⟩ := b
  unfold dv at h
  simp only [List.cons.injEq, V.str.injEq, V.int.injEq, and_true] at h
  obtain ⟨h1, h2, h3⟩ := h
  have e1 := wy_inj h1
  have e2 : k1 = k2 := by omega
  have e3 : s1 = s2 := by omega
  subst e1 e2 e3
  rfl
theorem keyOf_inj {a b : Dd} (h : keyOf a = keyOf b) : a = b := dv_inj (by rw [← keyOf_kV, ← keyOf_kV, h])

/-- deeds with the places of their tuples -/
abbrev DL := List (Addr × Dd)
def At (H : Hp) (p : Addr × Dd) : Prop := H p.1 = some (.tup (dv p.2))
def Ats (H : Hp) (L : DL) : Prop := ∀ p ∈ L, At H p
def rf (L : DL) : List V := L.map fun p => V.ref p.1
def ds (L : DL) : List Dd := L.map (·.2)
theorem rf_len {L : DL} : (rf L).length = L.length := by unfold rf; rw [List.length_map]
theorem ds_len {L : DL} : (ds L).length = L.length := by unfold ds; rw [List.length_map]
theorem rf_at {L : DL} {i : Nat} {p : Addr × Dd} (h : L[i]? = some p) : (rf L)[i]? = some (.ref p.1) := by unfold rf; rw [List.getElem?_map, h]; rfl
theorem ds_at {L : DL} {i : Nat} {p : Addr × Dd} (h : L[i]? = some p) : (ds L)[i]? = some p.2 := by unfold ds; rw [List.getElem?_map, h]; rfl
theorem rf_app (L M : DL) : rf (L ++ M) = rf L ++ rf M := List.map_append
theorem ds_app (L M : DL) : ds (L ++ M) = ds L ++ ds M := List.map_append
theorem of_rf {L : DL} {i : Nat} {v : V} (h : (rf L)[i]? = some v) : ∃ p, L[i]? = some p ∧ v = .ref p.1 := by
  unfold rf at h
  rw [List.getElem?_map] at h
  cases e : L[i]? with
  | none => rw [e] at h; cases h
  | some p => rw [e] at h; exact ⟨p, rfl, (Option.some.inj h).symm⟩
theorem Ats.same {H H' : Hp} {L : DL} (s : Same H H') (h : Ats H L) : Ats H' L := fun p hp => s _ _ (h p hp)
theorem Ats.get {H : Hp} {L : DL} (h : Ats H L) {i : Nat} {p : Addr × Dd} (e : L[i]? = some p) : H p.1 = some (.tup (dv p.2)) := h p (List.mem_of_getElem? e)
theorem Ats.nil {H : Hp} : Ats H [] := fun _ h => by simp at h
theorem Ats.snoc {H : Hp} {L : DL} {p : Addr × Dd} (h : Ats H L) (hp : H p.1 = some (.tup (dv p.2))) : Ats H (L ++ [p]) := fun q hq => by
  rcases List.mem_append.mp hq with z | z
  · exact h q z
  · rw [List.mem_singleton.mp z]; exact hp
theorem Same.upd_new {H : Hp} {p : Addr} {o : HO} (hp : H p = none) : Same H (upd H p o) := fun b u e => by
  rw [upd_ne (ne_of_none e hp)]
  exact e
theorem Same.upd_to {H H' : Hp} {p : Addr} {o : HO} (s : Same H H') (hp : H p = none) : Same H (upd H' p o) := fun b u e => by
  rw [upd_ne (ne_of_none e hp)]
  exact s b u e

/-- rows: a tuple of tuples of deeds -/
abbrev RL := List (Addr × DL)
def rowsV (LL : RL) : List V := LL.map fun q => V.ref q.1
def rowsD (LL : RL) : List (List Dd) := LL.map fun q => ds q.2
structure RowsAt (H : Hp) (r : Addr) (LL : RL) : Prop where
  top : H r = some (.tup (rowsV LL))
  row : ∀ q ∈ LL, H q.1 = some (.tup (rf q.2))
  deed : ∀ q ∈ LL, Ats H q.2
theorem RowsAt.same {H H' : Hp} {r : Addr} {LL : RL} (s : Same H H') (h : RowsAt H r LL) : RowsAt H' r LL :=
  ⟨s _ _ h.top, fun q hq => s _ _ (h.row q hq), fun q hq => (h.deed q hq).same s⟩
theorem rowsV_len {LL : RL} : (rowsV LL).length = LL.length := by unfold rowsV; rw [List.length_map]
theorem rowsD_len {LL : RL} : (rowsD LL).length = LL.length := by unfold rowsD; rw [List.length_map]
theorem rowsV_at {LL : RL} {i : Nat} {q : Addr × DL} (h : LL[i]? = some q) : (rowsV LL)[i]? = some (.ref q.1) := by unfold rowsV; rw [List.getElem?_map, h]; rfl
theorem of_rowsV {LL : RL} {i : Nat} {v : V} (h : (rowsV LL)[i]? = some v) : ∃ q, LL[i]? = some q ∧ v = .ref q.1 := by
  unfold rowsV at h
  rw [List.getElem?_map] at h
  cases e : LL[i]? with
  | none => rw [e] at h; cases h
  | some p => rw [e] at h; exact ⟨p, rfl, (Option.some.inj h).symm⟩
theorem rowsD_at {LL : RL} {i : Nat} {q : Addr × DL} (h : LL[i]? = some q) : (rowsD LL).getD i [] = ds q.2 := by
  unfold rowsD
  rw [List.getD_eq_getElem?_getD, List.getElem?_map, h]
  rfl
end K14
/-! ## K14A -/
namespace K14
open PySem L2 PySem.Spec PyProof.Rows
section
variable {P : Program} {w : World} {K : PySem.W.Frag} {mg : Str → Option Value} {base : Heap}

/-! ### is_between(value, least, most), in bounds -/
def spBetween : Sp := fun vs H Q _ => ∃ (v lo hi : Int), vs = [.int v, .int lo, .int hi] ∧ lo ≤ v ∧ v ≤ hi ∧ Q (.bl true) H
theorem scBetween : FnScope ["value", "least", "most"] ["value", "least", "most"] (defScope sBetween) := ⟨rfl, rfl, rfl, by decide +kernel, rfl, by decide +kernel, by decide +kernel⟩
theorem ok_between {f : Addr} {fd : FuncData} (F : Fun K "is_between" "is_between" sBetween f fd) (T : Tx mg) : FnOk P w K mg base CX0 1 f fd ["value", "least", "most"] spBetween := by
  refine F.ok scBetween (fun vs H Q E h => ?_) (fun cdv A outer s H vs Q E hr h => ?_)
  · obtain ⟨v, lo, hi, rfl, _⟩ := h
    rfl
  · obtain ⟨v, lo, hi, rfl, h1, h2, k⟩ := h
    refine ⟨_, pss_one (ps_ret (pe_and (pe_callB call_isi (by rfl) T.isi (by decide +kernel) (pa_cons (pv 0) (pa_cons (pe_bltn (v := .ty "int") (by rfl) T.int boot_int rfl) pa_nil)))
      (pe_and (pe_not (pe_callB call_isi (by rfl) T.isi (by decide +kernel) (pa_cons (pv 0) (pa_cons (pe_bltn (v := .ty "bool") (by rfl) T.bool (by decide +kernel) rfl) pa_nil))))
      (pe_one (pe_chain op_le op_le (pv 1) (pv 0) (pv 2)))))), ?_⟩
    refine ⟨_, rfl, _, _, _, _, true, rfl, .ty "int", .base (.int v), kit_ty (by decide +kernel), true, rfl, iteT ?_⟩
    refine ⟨_, rfl, _, _, _, _, false, rfl, .ty "bool", .base (.int v), kit_ty (by decide +kernel), false, rfl, true, rfl, iteT ?_⟩
    refine ⟨_, rfl, _, rfl, lo, v, rfl, rfl, decide (lo ≤ v), rfl, ?_⟩
    rw [decide_eq_true h1]
    refine iteT ⟨_, rfl, v, hi, rfl, rfl, ?_⟩
    show Q (.bl (decide (v ≤ hi))) H
    rw [decide_eq_true h2]
    exact k

/-! ### is_row(value), a tuple -/
def spRow : Sp := fun vs H Q _ => ∃ (a : Addr) (xs : List V), vs = [.ref a] ∧ H a = some (.tup xs) ∧ ∀ H', Same H H' → Q (.bl true) H'
theorem scRow : FnScope ["value"] ["value"] (defScope sRow) := ⟨rfl, rfl, rfl, by decide +kernel, rfl, by decide +kernel, by decide +kernel⟩
theorem ok_row {f : Addr} {fd : FuncData} (F : Fun K "is_row" "is_row" sRow f fd) (T : Tx mg) : FnOk P w K mg base CX0 1 f fd ["value"] spRow := by
  refine F.ok scRow (fun vs H Q E h => ?_) (fun cdv A outer s H vs Q E hr h => ?_)
  · obtain ⟨a, xs, rfl, _⟩ := h
    rfl
  · obtain ⟨a, xs, rfl, ha, k⟩ := h
    refine ⟨_, pss_one (ps_ret (pe_callB call_isiT (by rfl) T.isi (by decide +kernel) (pa_cons (pv 0) (pa_cons
      (pe_tup (pa_cons (pe_bltn (v := .ty "list") (by rfl) T.list (by decide +kernel) rfl) (pa_cons (pe_bltn (v := .ty "tuple") (by rfl) T.tuple (by decide +kernel) rfl) pa_nil))) pa_nil)))), ?_⟩
    refine ⟨_, rfl, (by show 2 ≤ sizeLine; decide), fun p hp => ?_⟩
    have ha' : upd H p (.tup [.ty "list", .ty "tuple"]) a = some (.tup xs) := by rw [upd_ne (ne_of_none ha hp)]; exact ha
    refine ⟨_, p, _, _, [.type "list", .type "tuple"], true, rfl, upd_same, .cons (.ty "list") (.cons (.ty "tuple") .nil), .base (.tup ha'),
      kitAny_cons (kit_ty (r := false) (by decide +kernel)) (fun _ => kitAny_cons (kit_ty (r := true) (by decide +kernel)) (fun z => nomatch z) fun _ => rfl) (fun z => nomatch z), ?_⟩
    exact k _ (Same.upd_new hp)

/-! ### check_sizes -/
structure SizesOk (P S K : Nat) : Prop where
  p1 : 1 ≤ P
  p4 : P ≤ 4
  ps : P ≤ S
  s12 : S ≤ 12
  sm : S % P = 0
  k1 : 1 ≤ K
  k8 : K ≤ 8
def spSizes : Sp := fun vs H Q _ => ∃ (P S K : Nat), vs = [.int (P : Int), .int (S : Int), .int (K : Int)] ∧ SizesOk P S K ∧ Q .non H
theorem scSizes : FnScope ["machines", "stages", "portions"] ["machines", "stages", "portions"] (defScope sSizes) := ⟨rfl, rfl, rfl, by decide +kernel, rfl, by decide +kernel, by decide +kernel⟩
theorem ok_sizes {f : Addr} {fd : FuncData} (F : Fun K "check_sizes" "check_sizes" sSizes f fd) (T : Tx mg) (DB : Def P w K mg base "is_between" 1 ["value", "least", "most"] spBetween) :
    FnOk P w K mg base CX0 2 f fd ["machines", "stages", "portions"] spSizes := by
  refine F.ok scSizes (fun vs H Q E h => ?_) (fun cdv A outer s H vs Q E hr h => ?_)
  · obtain ⟨P, S, K, rfl, _⟩ := h
    rfl
  · obtain ⟨P, S, K, rfl, h, k⟩ := h
    obtain ⟨t1, mm⟩ := T.mm
    obtain ⟨t2, ms⟩ := T.ms
    obtain ⟨t3, mp⟩ := T.mp
    refine ⟨_, pss_cons (ps_if (pt_not (pt_val (pe_def DB hr (by rfl) (pa_cons (pv 0) (pa_cons pe_int (pa_cons (pe_glob (v := .int 4) (by rfl) mm ⟨_, rfl⟩) pa_nil)))))) pss_never pss_nil)
      (pss_cons (ps_if (PW.pt (pw_or (pt_not (pt_val (pe_def DB hr (by rfl) (pa_cons (pv 1) (pa_cons (pv 0) (pa_cons (pe_glob (v := .int 12) (by rfl) ms ⟨_, rfl⟩) pa_nil))))))
        (pw_or1 (pt_cmpR op_ne (pe_op op_mod (pv 1) (pv 0)) pe_int (nomark _))))) pss_never pss_nil)
      (pss_one (ps_if (pt_not (pt_val (pe_def DB hr (by rfl) (pa_cons (pv 2) (pa_cons pe_int (pa_cons (pe_glob (v := .int 8) (by rfl) mp ⟨_, rfl⟩) pa_nil)))))) pss_never pss_nil))), ?_⟩
    have := h.p1
    have := h.p4
    have := h.ps
    have := h.s12
    have := h.k1
    have := h.k8
    have hm : (S : Int) % (P : Int) = 0 := by
      have := h.sm
      omega
    refine ⟨_, rfl, _, _, _, rfl, by omega, by omega, true, rfl, iteF ?_⟩
    refine ⟨_, rfl, _, rfl, _, _, _, rfl, by omega, by omega, true, rfl, iteF ?_⟩
    refine ⟨_, rfl, _, rfl, _, _, rfl, rfl, (by show (0 : Int) < (P : Int); omega), rfl, _, rfl, iteNS (congrArg V.int hm) ?_⟩
    refine ⟨_, rfl, _, _, _, rfl, by omega, by omega, true, rfl, iteF ?_⟩
    exact k

/-! ### is_deed(value, stages, portions), a deed -/
def spDeed : Sp := fun vs H Q _ => ∃ (a : Addr) (d : Dd) (S N : Nat), vs = [.ref a, .int (S : Int), .int (N : Int)] ∧ At H (a, d) ∧ d.s < S ∧ d.k < N ∧ ∀ H', Same H H' → Q (.bl true) H'
theorem scDeed : FnScope ["value", "stages", "portions"] ["value", "stages", "portions"] (defScope sDeed) := ⟨rfl, rfl, rfl, by decide +kernel, rfl, by decide +kernel, by decide +kernel⟩
theorem in_fb : ∀ b : Bool, inV (.str (wy b)) [.str "f", .str "b"] = true
  | true => by decide +kernel
  | false => by decide +kernel
theorem ok_deed {f : Addr} {fd : FuncData} (F : Fun K "is_deed" "is_deed" sDeed f fd) (T : Tx mg) (DR : Def P w K mg base "is_row" 1 ["value"] spRow) (DB : Def P w K mg base "is_between" 1 ["value", "least", "most"] spBetween) :
    FnOk P w K mg base CX0 2 f fd ["value", "stages", "portions"] spDeed := by
  refine F.ok scDeed (fun vs H Q E h => ?_) (fun cdv A outer s H vs Q E hr h => ?_)
  · obtain ⟨a, d, S, N, rfl, _⟩ := h
    rfl
  · obtain ⟨a, d, S, N, rfl, ha, hs, hk, k⟩ := h
    refine ⟨_, pss_cons (ps_if (PW.pt (pw_or (pt_not (pt_val (pe_def DR hr (by rfl) (pa_cons (pv 0) pa_nil))))
        (pw_or (pt_cmpR op_ne (pe_callB call_len_seq (by rfl) T.len PySem.boot_len (pa_cons (pv 0) pa_nil)) pe_int (nomark _))
        (pw_or (pt_not (pt_val (pe_callB call_isi (by rfl) T.isi (by decide +kernel) (pa_cons (pe_ix ix_tup (pv 0) pe_int (fun _ _ => rfl)) (pa_cons (pe_bltn (v := .ty "str") (by rfl) T.str (by decide +kernel) rfl) pa_nil)))))
        (pw_or1 (pt_cmpR op_notIn_seq (pe_ix ix_tup (pv 0) pe_int (fun _ _ => rfl)) (pe_tup (pa_cons pe_str (pa_cons pe_str pa_nil))) (by rfl))))))) (pss_one (ps_ret pe_bl)) pss_nil)
      (pss_one (ps_ret (pe_and (pe_def DB hr (by rfl) (pa_cons (pe_ix ix_tup (pv 0) pe_int (fun _ _ => rfl)) (pa_cons pe_int (pa_cons (pe_op op_sub (pv 2) pe_int) pa_nil))))
        (pe_one (pe_def DB hr (by rfl) (pa_cons (pe_ix ix_tup (pv 0) pe_int (fun _ _ => rfl)) (pa_cons pe_int (pa_cons (pe_op op_sub (pv 1) pe_int) pa_nil)))))))), ?_⟩
    -- not is_row(value)
    refine ⟨_, rfl, a, _, rfl, ha, fun H1 s1 => ⟨true, rfl, iteF ?_⟩⟩
    have h1 : H1 a = some (.tup (dv d)) := s1 _ _ ha
    -- len(value) != 3
    refine ⟨_, rfl, a, dv d, rfl, .inr (SqT.of h1), rfl, _, rfl, iteF ?_⟩
    -- not isinstance(value[0], str)
    refine ⟨_, rfl, a, dv d, 0, .str (wy d.f), rfl, rfl, SqT.of h1, rfl, _, _, _, _, true, rfl, .ty "str", .base (.str _), kit_ty (by decide +kernel), true, rfl, iteF ?_⟩
    -- value[0] not in ('f', 'b')
    refine ⟨_, rfl, a, dv d, 0, .str (wy d.f), rfl, rfl, SqT.of h1, rfl, (by show 2 ≤ sizeLine; decide), fun p hp => ?_⟩
    have s2 : Same H1 (upd H1 p (.tup [.str "f", .str "b"])) := Same.upd_new hp
    refine ⟨p, [.str "f", .str "b"], rfl, .inr (SqT.of upd_same), rfl, rfl, !inV (.str (wy d.f)) [.str "f", .str "b"], rfl, ?_⟩
    rw [in_fb]
    refine iteF ?_
    have h2 := s2 _ _ h1
    -- is_between(value[1], 0, portions - 1) and is_between(value[2], 0, stages - 1)
    refine ⟨_, rfl, a, dv d, 1, .int d.k, rfl, rfl, SqT.of h2, rfl, _, rfl, _, _, rfl, rfl, _, _, _, rfl, by omega, by omega, true, rfl, iteT ?_⟩
    refine ⟨_, rfl, a, dv d, 2, .int d.s, rfl, rfl, SqT.of h2, rfl, _, rfl, _, _, rfl, rfl, _, _, _, rfl, by omega, by omega, ?_⟩
    exact k _ (s1.trans s2)

/-! ### needed(deed, stages) -/
def GotN (S : Nat) (d : Dd) (H : Hp) (Q : VK) : Prop := ∀ (H' : Hp) (p : Addr) (L : DL), Same H H' → H' p = some (.tup (rf L)) → Ats H' L → ds L = needD S d → Q (.ref p) H'
def spNeeded : Sp := fun vs H Q _ => ∃ (a : Addr) (d : Dd) (S : Nat), vs = [.ref a, .int (S : Int)] ∧ At H (a, d) ∧ GotN S d H Q
theorem scNeeded : FnScope ["deed", "stages", "way", "portion", "stage"] ["deed", "stages"] (defScope sNeeded) := ⟨rfl, rfl, rfl, by decide +kernel, rfl, by decide +kernel, by decide +kernel⟩
theorem ok_needed {f : Addr} {fd : FuncData} (F : Fun K "needed" "needed" sNeeded f fd) : FnOk P w K mg base CX0 1 f fd ["deed", "stages"] spNeeded := by
  refine F.ok scNeeded (fun vs H Q E h => ?_) (fun cdv A outer s H vs Q E hr h => ?_)
  · obtain ⟨a, d, S, rfl, _⟩ := h
    rfl
  · obtain ⟨a, ⟨f, kk, st⟩, S, rfl, ha, k⟩ := h
    refine ⟨_, pss_cons (ps_asg (pv 0) (pg_tup (by rfl) (pgs_cons (pg_name (i := 2) scNeeded.nd rfl (.inl rfl)) (pgs_cons (pg_name (i := 3) scNeeded.nd rfl (.inl rfl)) (pgs_cons (pg_name (i := 4) scNeeded.nd rfl (.inl rfl)) pgs_nil)))))
      (pss_cons (ps_if (pt_cmpR op_eq (pv 2) pe_str (nomark _))
        (pss_one (ps_ret (pe_ifExp (pt_cmpR op_gt (pv 4) pe_int (nomark _)) (pe_tup (pa_cons (pe_tup (pa_cons (pv 2) (pa_cons (pv 3) (pa_cons (pe_op op_sub (pv 4) pe_int) pa_nil)))) pa_nil)) (pe_tup pa_nil)))) pss_nil)
      (pss_cons (ps_if (pt_cmpR op_lt (pe_op op_add (pv 4) pe_int) (pv 1) (nomark _))
        (pss_one (ps_ret (pe_tup (pa_cons (pe_tup (pa_cons pe_str (pa_cons (pv 3) (pa_cons (pe_op op_add (pv 4) pe_int) pa_nil)))) (pa_cons (pe_tup (pa_cons pe_str (pa_cons (pv 3) (pa_cons (pv 4) pa_nil)))) pa_nil))))) pss_nil)
      (pss_one (ps_ret (pe_tup (pa_cons (pe_tup (pa_cons pe_str (pa_cons (pv 3) (pa_cons (pv 4) pa_nil)))) pa_nil)))))), ?_⟩
    refine ⟨_, rfl, a, dv ⟨f, kk, st⟩, rfl, SqT.of ha, rfl, _, _, rfl, _, _, rfl, _, _, rfl, rfl, ?_⟩
    cases f with
    | true =>
      refine ⟨_, rfl, rfl, _, rfl, ?_⟩
      rw [decide_eq_true (show V.str (wy true) = V.str "f" from rfl)]
      refine iteT ⟨_, rfl, _, _, rfl, rfl, _, rfl, ?_⟩
      refine ite2 (fun h0 => ?_) (fun h0 => ?_)
      · have h1 : (0 : Int) < (st : Int) := of_decide_eq_true h0
        refine ⟨_, rfl, _, rfl, _, rfl, _, _, rfl, rfl, (by show 3 ≤ sizeLine; decide), fun p hp => ⟨(by show 1 ≤ sizeLine; decide), fun q hq => ?_⟩⟩
        have e1 : ((st : Int) - 1) = ((st - 1 : Nat) : Int) := by omega
        have npq : p ≠ q := ne_of_none upd_same hq
        refine k _ q [(p, ⟨true, kk, st - 1⟩)] ((Same.upd_new hp).trans (Same.upd_new hq)) upd_same ?_ ?_
        · intro z hz
          rw [List.mem_singleton.mp hz]
          show upd _ q _ p = _
          rw [upd_ne npq, upd_same]
          show some (HO.tup [.str "f", .int kk, .int ((st : Int) - 1)]) = some (HO.tup [.str (wy true), .int kk, .int ((st - 1 : Nat) : Int)])
          rw [e1]
          rfl
        · show [(⟨true, kk, st - 1⟩ : Dd)] = needD S ⟨true, kk, st⟩
          unfold needD
          simp only
          rw [if_pos (by omega)]
      · have h1 : ¬ (0 : Int) < (st : Int) := fun z => h0 (decide_eq_true z)
        refine ⟨(by show 0 ≤ sizeLine; decide), fun q hq => ?_⟩
        refine k _ q [] (Same.upd_new hq) upd_same Ats.nil ?_
        show ([] : List Dd) = needD S ⟨true, kk, st⟩
        unfold needD
        simp only
        rw [if_neg (by omega)]
    | false =>
      refine ⟨_, rfl, rfl, _, rfl, ?_⟩
      rw [decide_eq_false (show ¬ V.str (wy false) = V.str "f" by decide +kernel)]
      refine iteF ⟨_, rfl, _, _, rfl, rfl, _, rfl, _, _, rfl, rfl, _, rfl, ?_⟩
      refine ite2 (fun h0 => ?_) (fun h0 => ?_)
      · have h1 : (st : Int) + 1 < (S : Int) := of_decide_eq_true h0
        refine ⟨_, rfl, _, rfl, _, _, rfl, rfl, (by show 3 ≤ sizeLine; decide), fun p hp => ⟨_, rfl, _, rfl, (by show 3 ≤ sizeLine; decide), fun p2 hp2 => ⟨(by show 2 ≤ sizeLine; decide), fun q hq => ?_⟩⟩⟩
        have n12 : p ≠ p2 := ne_of_none upd_same hp2
        have n1q : p ≠ q := ne_of_none (o := .tup [.str "b", .int kk, .int ((st : Int) + 1)]) (by rw [upd_ne n12, upd_same]) hq
        have n2q : p2 ≠ q := ne_of_none upd_same hq
        refine k _ q [(p, ⟨false, kk, st + 1⟩), (p2, ⟨true, kk, st⟩)] (((Same.upd_new hp).trans (Same.upd_new hp2)).trans (Same.upd_new hq)) upd_same ?_ ?_
        · intro z hz
          rcases List.mem_cons.mp hz with rfl | hz
          · show upd _ q _ p = _
            rw [upd_ne n1q, upd_ne n12, upd_same]
            rfl
          · rw [List.mem_singleton.mp hz]
            show upd _ q _ p2 = _
            rw [upd_ne n2q, upd_same]
            rfl
        · show [(⟨false, kk, st + 1⟩ : Dd), ⟨true, kk, st⟩] = needD S ⟨false, kk, st⟩
          unfold needD
          simp only
          rw [if_pos (by omega)]
      · have h1 : ¬ (st : Int) + 1 < (S : Int) := fun z => h0 (decide_eq_true z)
        refine ⟨_, rfl, _, rfl, (by show 3 ≤ sizeLine; decide), fun p hp => ⟨(by show 1 ≤ sizeLine; decide), fun q hq => ?_⟩⟩
        have npq : p ≠ q := ne_of_none upd_same hq
        refine k _ q [(p, ⟨true, kk, st⟩)] ((Same.upd_new hp).trans (Same.upd_new hq)) upd_same ?_ ?_
        · intro z hz
          rw [List.mem_singleton.mp hz]
          show upd _ q _ p = _
          rw [upd_ne npq, upd_same]
          rfl
        · show [(⟨true, kk, st⟩ : Dd)] = needD S ⟨false, kk, st⟩
          unfold needD
          simp only
          rw [if_neg (by omega)]
end
end K14
/-! ## K14B -/
namespace K14
open PySem L2 PySem.Spec PyProof.Rows

/-! ### the dict of deeds -/
def dk (l : List Dd) : List (List Key × V) := l.map fun d => (keyOf d, V.bl true)
theorem dk_len {l : List Dd} : (dk l).length = l.length := by unfold dk; rw [List.length_map]
theorem dk_val (e : Dd) : ∀ l : List Dd, valV (dk l) (keyOf e) = if e ∈ l then some (V.bl true) else none
  | [] => rfl
  | d :: r => by
    have ih := dk_val e r
    show valV ((keyOf d, V.bl true) :: dk r) (keyOf e) = _
    by_cases h : d = e
    · rw [valV_pos (congrArg keyOf h), if_pos (by rw [h]; exact List.mem_cons_self)]
    · rw [valV_neg (fun q => h (keyOf_inj q)), ih]
      by_cases hm : e ∈ r
      · rw [if_pos hm, if_pos (List.mem_cons_of_mem _ hm)]
      · rw [if_neg hm, if_neg (fun q => by rcases List.mem_cons.mp q with z | z; exact h z.symm; exact hm z)]
theorem dk_some (e : Dd) (l : List Dd) : (valV (dk l) (keyOf e)).isSome = decide (e ∈ l) := by
  rw [dk_val]
  by_cases h : e ∈ l
  · rw [if_pos h, decide_eq_true h]; rfl
  · rw [if_neg h, decide_eq_false h]; rfl
theorem dk_put {e : Dd} {l : List Dd} (h : e ∉ l) : putK (dk l) (keyOf e) (V.bl true) = dk (l ++ [e]) := by
  rw [putK_new _ (by rw [dk_val, if_neg h])]
  unfold dk
  rw [List.map_append]
  rfl
theorem At.key {H : Hp} {a : Addr} {d : Dd} (h : H a = some (.tup (dv d))) : H a = some (.tup ((keyOf d).map kV)) := by rw [keyOf_kV]; exact h

/-- the rows of a lawful order -/
structure Lw (P S N : Nat) (o : List Dd) : Prop where
  sz : SizesOk P S N
  od : Ord S o
  kk : ∀ d ∈ o, d.k < N
  ln : o.length = 2 * S * N
theorem Lw.p0 {P S N : Nat} {o : List Dd} (h : Lw P S N o) : 0 < P := h.sz.p1
theorem Lw.small {P S N : Nat} {o : List Dd} (h : Lw P S N o) : o.length ≤ 192 := by
  rw [h.ln]
  have h1 := h.sz.s12
  have h2 := h.sz.k8
  have : S * N ≤ 12 * 8 := Nat.mul_le_mul h1 h2
  rw [Nat.mul_assoc]
  omega
theorem mem_row {P : Nat} {o : List Dd} {LL : RL} (e : rowsD LL = rowsOf P o) {i : Nat} {q : Addr × DL} (h : LL[i]? = some q) : i < P ∧ ds q.2 = o.filter (onM P i) := by
  have hi : i < LL.length := (List.getElem?_eq_some_iff.mp h).1
  have hP : i < P := by
    rw [← rowsD_len, e, rowsOf_len] at hi
    exact hi
  refine ⟨hP, ?_⟩
  rw [← rowsD_at h, e, rowsOf_at hP]
theorem mem_row' {P : Nat} {o : List Dd} {LL : RL} (e : rowsD LL = rowsOf P o) {i : Nat} {q : Addr × DL} (h : LL[i]? = some q) {j : Nat} {p : Addr × Dd} (hp : q.2[j]? = some p) : p.2 ∈ o ∧ p.2.s % P = i := by
  obtain ⟨h1, h2⟩ := mem_row e h
  have h3 := ds_at hp
  rw [h2] at h3
  have h4 := List.mem_filter.mp (List.mem_of_getElem? h3)
  exact ⟨h4.1, of_decide_eq_true h4.2⟩
theorem row_le {P S N : Nat} {o : List Dd} {LL : RL} (W : Lw P S N o) (e : rowsD LL = rowsOf P o) {i : Nat} {q : Addr × DL} (h : LL[i]? = some q) : q.2.length ≤ 192 := by
  obtain ⟨_, h2⟩ := mem_row e h
  have h3 := congrArg List.length h2
  rw [ds_len] at h3
  have := List.length_filter_le (onM P i) o
  have := W.small
  omega

theorem flat_take {α : Type} (L : List (List α)) (i : Nat) : (L.take i).flatten.Sublist L.flatten := by
  have e : L.flatten = (L.take i).flatten ++ (L.drop i).flatten := by rw [← List.flatten_append, List.take_append_drop]
  rw [e]
  exact List.sublist_append_left _ _
/-- what the first i rows and j deeds of the next one hold -/
def pfx (LL : RL) (i : Nat) : List Dd := ((rowsD LL).take i).flatten
theorem pfx_succ {LL : RL} {i : Nat} {q : Addr × DL} (h : LL[i]? = some q) : pfx LL (i + 1) = pfx LL i ++ ds q.2 := by
  unfold pfx
  have hr : (rowsD LL)[i]? = some (ds q.2) := by unfold rowsD; rw [List.getElem?_map, h]; rfl
  rw [List.take_add_one, hr]
  simp
theorem pfx_all {LL : RL} : pfx LL LL.length = (rowsD LL).flatten := by
  unfold pfx
  rw [List.take_of_length_le (by rw [rowsD_len]; exact Nat.le_refl _)]
theorem pfx_new {LL : RL} (nd : (rowsD LL).flatten.Nodup) {i j : Nat} {q : Addr × DL} {p : Addr × Dd} (h : LL[i]? = some q) (hp : q.2[j]? = some p) : p.2 ∉ pfx LL i ++ (ds q.2).take j := by
  have hsub : (pfx LL i ++ ds q.2).Nodup := by
    rw [← pfx_succ h]
    unfold pfx
    have : ((rowsD LL).take (i + 1)).flatten.Sublist (rowsD LL).flatten := flat_take _ _
    exact this.nodup nd
  have hpj : (ds q.2)[j]? = some p.2 := ds_at hp
  have hj : j < (ds q.2).length := (List.getElem?_eq_some_iff.mp hpj).1
  intro hm
  have hlen : ((ds q.2).take j).length = j := by rw [List.length_take]; omega
  have e1 : (pfx LL i ++ ds q.2)[(pfx LL i).length + j]? = some p.2 := by
    rw [List.getElem?_append_right (Nat.le_add_right _ _), Nat.add_sub_cancel_left]
    exact hpj
  have hm2 : p.2 ∈ (pfx LL i ++ ds q.2).take ((pfx LL i).length + j) := by
    rw [List.take_append, List.take_of_length_le (Nat.le_add_right _ _), Nat.add_sub_cancel_left]
    exact hm
  obtain ⟨m, hmlt, em⟩ := take_mem_ix hm2
  have := nodup_at hsub em e1
  omega
theorem pfx_le {P S N : Nat} {o : List Dd} {LL : RL} (W : Lw P S N o) (e : rowsD LL = rowsOf P o) {i j : Nat} {q : Addr × DL} {p : Addr × Dd} (h : LL[i]? = some q) (hp : q.2[j]? = some p) : (pfx LL i ++ (ds q.2).take j).length ≤ 192 := by
  have h1 : (pfx LL i ++ (ds q.2).take j).length ≤ (pfx LL (i + 1)).length := by
    rw [pfx_succ h, List.length_append, List.length_append, List.length_take]
    omega
  have h2 : (pfx LL (i + 1)).length ≤ (rowsD LL).flatten.length := by
    unfold pfx
    exact (flat_take _ _).length_le
  rw [e, flat_len W.p0] at h2
  have := W.small
  omega

section
variable {P : Program} {w : World} {K : PySem.W.Frag} {mg : Str → Option Value} {base : Heap}
/-! ### are_rows, on lawful rows -/
def spAreRows : Sp := fun vs H Q _ => ∃ (r : Addr) (LL : RL) (P S N : Nat) (o : List Dd), vs = [.ref r, .int (P : Int), .int (S : Int), .int (N : Int)] ∧ RowsAt H r LL ∧ rowsD LL = rowsOf P o ∧ Lw P S N o ∧ ∀ H', Same H H' → Q (.bl true) H'
theorem scAreRows : FnScope ["rows", "machines", "stages", "portions", "seen", "machine", "row", "deed"] ["rows", "machines", "stages", "portions"] (defScope sAreRows) := ⟨rfl, rfl, rfl, by decide +kernel, rfl, by decide +kernel, by decide +kernel⟩
theorem ok_areRows {f : Addr} {fd : FuncData} (F : Fun K "are_rows" "are_rows" sAreRows f fd) (T : Tx mg) (DR : Def P w K mg base "is_row" 1 ["value"] spRow) (DD : Def P w K mg base "is_deed" 2 ["value", "stages", "portions"] spDeed) :
    FnOk P w K mg base CX0 3 f fd ["rows", "machines", "stages", "portions"] spAreRows := by
  refine F.ok scAreRows (fun vs H Q E h => ?_) (fun cdv A outer s H vs Q E hr h => ?_)
  · obtain ⟨r, LL, P, S, N, o, rfl, _⟩ := h
    rfl
  · obtain ⟨r, LL, P, S, N, o, rfl, R, eR, W, k⟩ := h
    have hu := hu_of hr
    have hr1 : Room 1 _ := hr.mono (by decide)
    have nd := scAreRows.nd
    refine ⟨_, pss_cons (ps_if (PW.pt (pw_or (pt_not (pt_val (pe_def DR hr1 (by rfl) (pa_cons (pv 0) pa_nil))))
        (pw_or1 (pt_cmpR op_ne (pe_callB call_len_seq (by rfl) T.len PySem.boot_len (pa_cons (pv 0) pa_nil)) (pv 1) (nomark _))))) (pss_one (ps_ret pe_bl)) pss_nil)
      (pss_cons (ps_set (i := 4) nd rfl (.inl rfl) pe_dnewT)
      (pss_cons (ps_for PassesOwn.never rfl (pi_enumT (by rfl) T.enum (pa_cons (pv 0) pa_nil)) (pg_tup (by rfl) (pgs_cons (pg_name (i := 5) nd rfl (.inl rfl)) (pgs_cons (pg_name (i := 6) nd rfl (.inl rfl)) pgs_nil)))
        (pss_cons (ps_if (pt_not (pt_val (pe_def DR hr1 (by rfl) (pa_cons (pv 6) pa_nil)))) (pss_one (ps_ret pe_bl)) pss_nil)
        (pss_one (ps_for PassesOwn.never rfl (pi_tup (pv 6)) (pg_name (i := 7) nd rfl (.inl rfl))
          (pss_cons (ps_if (PW.pt (pw_or (pt_not (pt_val (pe_def DD hr (by rfl) (pa_cons (pv 7) (pa_cons (pv 2) (pa_cons (pv 3) pa_nil))))))
              (pw_or (pt_cmpR op_ne (pe_op op_mod (pe_ix ix_tup (pv 7) pe_int (fun _ _ => rfl)) (pv 1)) (pv 5) (nomark _))
              (pw_or1 (pt_cmp (pc_din hu (pe_callTy call_tupleT (by rfl) T.tuple (by decide +kernel) (pa_cons (pv 7) pa_nil)) (pv 4))))))) (pss_one (ps_ret pe_bl)) pss_nil)
          (pss_one (ps_dput hu (pv 4) (pe_callTy call_tupleT (by rfl) T.tuple (by decide +kernel) (pa_cons (pv 7) pa_nil)) pe_bl rfl)))))))
      (pss_one (ps_ret (pe_cmpR op_eq (pe_callB call_len_dT (by rfl) T.len PySem.boot_len (pa_cons (pv 4) pa_nil)) (pe_op op_mul (pe_op op_mul pe_int (pv 3)) (pv 2)) (nomark _)))))), ?_⟩
    have hLP : LL.length = P := by rw [← rowsD_len, eR, rowsOf_len]
    have hp0 := W.p0
    -- if not is_row(rows) or len(rows) != machines
    refine ⟨_, rfl, r, _, rfl, R.top, fun H1 s1 => ⟨true, rfl, iteF ?_⟩⟩
    have R1 := R.same s1
    refine ⟨_, rfl, r, rowsV LL, rfl, .inr (SqT.of R1.top), _, rfl, rfl, _, rfl, iteNS (by rw [rowsV_len, hLP]) ?_⟩
    -- seen = {}
    intro sd hsd
    have s2 : Same H (upd H1 sd (.dT [])) := s1.trans (Same.upd_new hsd)
    have hsdH : H sd = none := s1.free hsd
    -- for machine, row in enumerate(rows)
    refine ⟨_, rfl, r, rowsV LL, rfl, SqT.of (R.same s2).top, for_enumT (xs := rowsV LL)
      (fun i σ H2 => ∃ x5 x6 x7 : Option V, σ = [some (.ref r), some (.int P), some (.int S), some (.int N), some (.ref sd), x5, x6, x7] ∧ Same H H2 ∧ H2 sd = some (.dT (dk (pfx LL i))))
      ⟨none, none, none, rfl, s2, by rw [upd_same]; rfl⟩ (fun i σ H2 _ ⟨_, _, _, _, s3, _⟩ => SqT.of (R.same s3).top) ?_ ?_⟩
    · rintro i v σ H2 p hv ⟨x5, x6, x7, rfl, s3, hd⟩ hp
      obtain ⟨q, hq, rfl⟩ := of_rowsV hv
      have hqm := List.mem_of_getElem? hq
      have s4 : Same H (upd H2 p (.tup [.int (i : Nat), .ref q.1])) := s3.trans (Same.upd_new hp)
      have hd4 : upd H2 p (.tup [.int (i : Nat), .ref q.1]) sd = some (.dT (dk (pfx LL i))) := Same.upd_new hp _ _ hd
      refine ⟨p, _, rfl, SqT.of upd_same, rfl, _, _, rfl, _, _, rfl, rfl, ?_⟩
      -- if not is_row(row)
      refine ⟨_, rfl, q.1, _, rfl, (R.same s4).row q hqm, fun H5 s5 => ⟨true, rfl, iteF ?_⟩⟩
      have s6 := s4.trans s5
      -- for deed in row
      refine ⟨_, rfl, q.1, rfl, ⟨_, SqT.of ((R.same s6).row q hqm)⟩, for_tup (K := K) (a := q.1) (xs := rf q.2)
        (fun j σ H7 => ∃ x7 : Option V, σ = [some (.ref r), some (.int P), some (.int S), some (.int N), some (.ref sd), some (.int (i : Nat)), some (.ref q.1), x7] ∧ Same H H7 ∧ H7 sd = some (.dT (dk (pfx LL i ++ (ds q.2).take j))))
        ⟨x7, rfl, s6, by rw [s5 _ _ hd4]; simp⟩ (fun j σ H7 _ ⟨_, _, s7, _⟩ => SqT.of ((R.same s7).row q hqm)) ?_ ?_⟩
      · rintro j y σ H7 hy ⟨x7', rfl, s7, hd7⟩
        obtain ⟨d, hdj, rfl⟩ := of_rf hy
        obtain ⟨hdo, hdm⟩ := mem_row' eR hq hdj
        have hA7 : H7 d.1 = some (.tup (dv d.2)) := ((R.same s7).deed q hqm).get hdj
        have hst : d.2.s < S := W.od.st _ hdo
        have hkn : d.2.k < N := W.kk _ hdo
        -- not is_deed(..) or deed[2] % machines != machine or tuple(deed) in seen
        refine ⟨_, rfl, _, rfl, _, rfl, d.1, d.2, S, N, rfl, hA7, hst, hkn, fun H8 s8 => ⟨true, rfl, iteF ?_⟩⟩
        have hA8 := s8 _ _ hA7
        have hd8 := s8 _ _ hd7
        have s9 := s7.trans s8
        refine ⟨_, rfl, d.1, dv d.2, 2, .int d.2.s, rfl, rfl, SqT.of hA8, rfl, _, rfl, _, _, rfl, rfl, (by show (0 : Int) < (P : Int); omega), _, rfl, rfl, _, rfl, iteNS (congrArg V.int (by omega)) ?_⟩
        have hnew := pfx_new (by rw [eR]; exact flat_nd W.od) hq hdj
        refine ⟨_, rfl, d.1, dv d.2, rfl, SqT.of hA8, _, rfl, sd, _, rfl, DGet.t (k := keyOf d.2) hd8 (At.key hA8), _, rfl, ?_⟩
        rw [dk_some, decide_eq_false hnew]
        refine iteF ?_
        -- seen[tuple(deed)] = True
        refine ⟨_, rfl, _, rfl, d.1, dv d.2, rfl, SqT.of hA8, sd, _, rfl, DPut.t (k := keyOf d.2) hd8 (At.key hA8) (by rw [dk_len]; exact small1000 (Nat.le_trans (pfx_le W eR hq hdj) (by decide))), ?_⟩
        refine ⟨_, rfl, Same.upd_to s9 hsdH, ?_⟩
        rw [upd_same, dk_put hnew, List.append_assoc, List.take_add_one, ds_at hdj]
        rfl
      · rintro σ H7 ⟨x7', rfl, s7, hd7⟩
        refine ⟨_, _, _, rfl, s7, ?_⟩
        rw [hd7, pfx_succ hq, rf_len, List.take_of_length_le (by rw [ds_len]; exact Nat.le_refl _)]
    · rintro σ H2 ⟨x5, x6, x7, rfl, s3, hd⟩
      -- return len(seen) == 2 * portions * stages
      refine ⟨_, rfl, sd, _, rfl, hd, _, rfl, _, _, rfl, rfl, .inl ⟨by decide, by decide⟩, _, rfl, _, _, rfl, rfl, .inr ⟨?_, ?_⟩, rfl, ?_⟩
      · have := W.sz.s12
        omega
      · have := W.sz.s12
        omega
      · have e1 : ((dk (pfx LL (rowsV LL).length)).length : Nat) = 2 * S * N := by
          rw [dk_len, rowsV_len, pfx_all, eR, flat_len hp0, W.ln]
        have e2 : V.int ((dk (pfx LL (rowsV LL).length)).length : Nat) = V.int (2 * (N : Int) * (S : Int)) := by
          rw [e1]
          congr 1
          rw [Int.natCast_mul, Int.natCast_mul, Int.mul_assoc, Int.mul_assoc, Int.mul_comm (S : Int)]
          rfl
        show Q (.bl (decide (V.int ((dk (pfx LL (rowsV LL).length)).length : Nat) = V.int (2 * (N : Int) * (S : Int))))) H2
        rw [decide_eq_true e2]
        exact k _ s3
end
end K14
/-! ## K14C -/
namespace K14
open PySem L2 PySem.Spec PyProof.Rows

def natsV (l : List Nat) : List V := l.map fun n : Nat => V.int (n : Int)
theorem natsV_len {l : List Nat} : (natsV l).length = l.length := by unfold natsV; rw [List.length_map]
theorem natsV_at {l : List Nat} {i : Nat} (h : i < l.length) : (natsV l)[i]? = some (.int (l.getD i 0 : Nat)) := by
  unfold natsV
  rw [List.getElem?_map, List.getElem?_eq_getElem h, List.getD_eq_getElem?_getD, List.getElem?_eq_getElem h]
  rfl
theorem natsV_set {l : List Nat} {i n : Nat} {z : Int} (h : z = (n : Int)) : (natsV l).set i (.int z) = natsV (l.set i n) := by
  unfold natsV
  rw [h, List.map_set]
theorem natsV_zeros {n : Nat} : natsV (List.replicate n 0) = List.replicate n (V.int 0) := by
  unfold natsV
  rw [List.map_replicate]
  rfl
theorem ixN_nat {n i : Nat} (h : i < n) : ixN n (i : Int) = some i := by
  unfold ixN
  rw [if_pos (by omega), if_pos (by omega)]
  rfl

/-- the greedy state as it stands: the dict of what is done, the places, the order -/
structure GAt (H0 H : Hp) (dn at_ od : Addr) (g : G) : Prop where
  same : Same H0 H
  dn : H dn = some (.dT (dk g.ord))
  ats : H at_ = some (.lst (natsV g.ats))
  od : ∃ L : DL, H od = some (.lst (rf L)) ∧ Ats H L ∧ ds L = g.ord
/-- what is new and what not, fixed through the def -/
structure GNew (H0 : Hp) (dn at_ od : Addr) : Prop where
  d0 : H0 dn = none
  a0 : H0 at_ = none
  o0 : H0 od = none
  da : dn ≠ at_
  do_ : dn ≠ od
  ao : at_ ≠ od
theorem GAt.same' {H0 H H' : Hp} {dn at_ od : Addr} {g : G} (s : Same H H') (A : GAt H0 H dn at_ od g) : GAt H0 H' dn at_ od g := by
  obtain ⟨L, h1, h2, h3⟩ := A.od
  exact ⟨A.same.trans s, s _ _ A.dn, s _ _ A.ats, L, s _ _ h1, h2.same s, h3⟩
/-- a deed more -/
theorem GAt.bump {H0 H : Hp} {dn at_ od a : Addr} {g : G} {m : Nat} {d : Dd} (N : GNew H0 dn at_ od) (A : GAt H0 H dn at_ od g) (hd : d ∉ g.ord) (ha : H a = some (.tup (dv d))) (L : DL) (hL : H od = some (.lst (rf L))) (hA : Ats H L) (eL : ds L = g.ord) :
    GAt H0 (upd (upd (upd H dn (.dT (putK (dk g.ord) (keyOf d) (.bl true)))) od (.lst (rf L ++ [.ref a]))) at_ (.lst ((natsV g.ats).set m (.int ((g.ats.getD m 0 : Nat) + 1))))) dn at_ od (bump g m d) := by
  have tupNe : ∀ {b : Addr} {xs : List V}, H b = some (.tup xs) → b ≠ dn ∧ b ≠ od ∧ b ≠ at_ := fun {b xs} e =>
    ⟨ne_of e A.dn (by intro z; cases z), ne_of e hL (by intro z; cases z), ne_of e A.ats (by intro z; cases z)⟩
  refine ⟨fun b o e => ?_, ?_, ?_, L ++ [(a, d)], ?_, fun p hp => ?_, ?_⟩
  · rw [upd_ne (ne_of_none e N.a0), upd_ne (ne_of_none e N.o0), upd_ne (ne_of_none e N.d0)]
    exact A.same b o e
  · rw [upd_ne N.da, upd_ne N.do_, upd_same, dk_put hd]
    rfl
  · rw [upd_same, natsV_set (n := g.ats.getD m 0 + 1) (by omega)]
    rfl
  · rw [upd_ne N.ao.symm, upd_same, rf_app]
    rfl
  · have hp' : H p.1 = some (.tup (dv p.2)) := by
      rcases List.mem_append.mp hp with z | z
      · exact hA p z
      · rw [List.mem_singleton.mp z]
        exact ha
    obtain ⟨n1, n2, n3⟩ := tupNe hp'
    show upd _ at_ _ p.1 = _
    rw [upd_ne n3, upd_ne n2, upd_ne n1]
    exact hp'
  · rw [ds_app, eL]
    rfl

section
variable {P : Program} {w : World} {K : PySem.W.Frag} {mg : Str → Option Value} {base : Heap}
/-! ### orderly, on lawful rows -/
def spOrderly : Sp := fun vs H Q _ => ∃ (r : Addr) (LL : RL) (P S N : Nat) (o : List Dd), vs = [.ref r, .int (S : Int)] ∧ RowsAt H r LL ∧ rowsD LL = rowsOf P o ∧ Lw P S N o ∧
  ∀ (H' : Hp) (l : Addr) (L : DL), Same H H' → H l = none → H' l = some (.lst (rf L)) → Ats H' L → ds L = (run S (rowsOf P o) o.length).ord → Q (.ref l) H'
theorem scOrderly : FnScope ["rows", "stages", "done", "at", "order", "moved", "machine", "row", "deed", "_", "other"] ["rows", "stages"] (defScope sOrderly) := ⟨rfl, rfl, rfl, by decide +kernel, rfl, by decide +kernel, by decide +kernel⟩
theorem ok_orderly {f : Addr} {fd : FuncData} (F : Fun K "orderly" "orderly" sOrderly f fd) (T : Tx mg) (DN : Def P w K mg base "needed" 1 ["deed", "stages"] spNeeded) : FnOk P w K mg base CX0 2 f fd ["rows", "stages"] spOrderly := by
  refine F.ok scOrderly (fun vs H Q E h => ?_) (fun cdv A outer s H vs Q E hr h => ?_)
  · obtain ⟨r, LL, P, S, N, o, rfl, _⟩ := h
    rfl
  · obtain ⟨r, LL, P, S, N, o, rfl, R, eR, W, k⟩ := h
    have hu := hu_of hr
    have nd := scOrderly.nd
    refine ⟨_, pss_cons (ps_set (i := 2) nd rfl (.inr rfl) pe_dnewT)
      (pss_cons (ps_setLc (i := 3) (own := [("_", 9)]) (g := gName 9) (tt := tYes) rfl nd rfl rfl (sw_true rfl rfl rfl (by decide +kernel)) (pi_tup (pv 0))
          (blkOk_by (N := ["rows", "stages", "done", "at", "order", "moved", "machine", "row", "deed", "_", "other"]) (sc := defScope sOrderly) (by decide +kernel))
          (fun _ _ _ _ _ => pg_name (i := 9) nd rfl (.inl rfl)) (fun _ _ _ _ _ => pts_nil) (fun _ _ _ _ _ => pe_int))
      (pss_cons (ps_set (i := 4) nd rfl (.inl rfl) (pe_lst pa_nil))
      (pss_cons (ps_set (i := 5) nd rfl (.inl rfl) pe_bl)
      (pss_cons (ps_while PassesOwn.never (pt_val (pv 5))
        (pss_cons (ps_set (i := 5) nd rfl (.inl rfl) pe_bl)
        (pss_one (ps_for PassesOwn.never rfl (pi_enumT (by rfl) T.enum (pa_cons (pv 0) pa_nil)) (pg_tup (by rfl) (pgs_cons (pg_name (i := 6) nd rfl (.inl rfl)) (pgs_cons (pg_name (i := 7) nd rfl (.inl rfl)) pgs_nil)))
          (pss_one (ps_if (PW.pt (pw_and (pt_not (pt_val (pv 5))) (pw_and1 (pt_cmpR op_lt (pe_ix ix_list (pv 3) (pv 6) (fun _ _ => rfl)) (pe_callB call_len_seq (by rfl) T.len PySem.boot_len (pa_cons (pv 7) pa_nil)) (nomark _)))))
            (pss_cons (ps_set (i := 8) nd rfl (.inl rfl) (pe_ix ix_tup (pv 7) (pe_ix ix_list (pv 3) (pv 6) (fun _ _ => rfl)) (fun _ _ => rfl)))
            (pss_one (ps_if (pt_val (pe_callB (cr_all rfl) (by rfl) T.all (by decide +kernel) (pa_cons
                (pe_lc (own := [("other", 10)]) (g := gName 10) (tt := tYes) rfl nd (pi_tup (pe_def DN hr (by rfl) (pa_cons (pv 8) (pa_cons (pv 1) pa_nil))))
                  (blkOk_by (N := ["rows", "stages", "done", "at", "order", "moved", "machine", "row", "deed", "_", "other"]) (sc := defScope sOrderly) (by decide +kernel))
                  (fun _ _ _ _ _ => pg_name (i := 10) nd rfl (.inl rfl)) (fun _ _ _ _ _ => pts_nil) (fun _ _ _ _ _ => pe_cmp (pc_din hu (pv 10) (pv 2)))) pa_nil)))
              (pss_cons (ps_dput hu (pv 2) (pv 8) pe_bl rfl)
              (pss_cons (ps_expr (pe_bm PySem.F.plainAttrs_list PySem.F.slot_list_append PySem.F.type_list_append mt_append (pv 4) (pa_cons (pv 8) pa_nil)))
              (pss_cons (ps_asg (pe_op op_add (pe_ix ix_list (pv 3) (pv 6) (fun _ _ => rfl)) pe_int) (pg_sub (pv 3) (pv 6) set_list))
              (pss_one (ps_set (i := 5) nd rfl (.inl rfl) pe_bl))))) pss_nil))) pss_nil))))))
      (pss_one (ps_ret (pv 4))))))), ?_⟩
    have hLP : LL.length = P := by rw [← rowsD_len, eR, rowsOf_len]
    have hp0 := W.p0
    -- done = {}
    intro dn hdn
    have s1 : Same H (upd H dn (.dT [])) := Same.upd_new hdn
    -- at = [0 for _ in rows]
    refine ⟨_, rfl, r, rfl, ⟨_, SqT.of (R.same s1).top⟩, fun at_ hat => lc_tup (K := K) (a := r) (xs := rowsV LL)
      (fun i H2 => Same H H2 ∧ H2 dn = some (.dT []) ∧ H2 at_ = some (.lst (List.replicate i (V.int 0)))) ⟨s1.trans (Same.upd_new hat), by rw [upd_ne (ne_of_none upd_same hat), upd_same], by rw [upd_same]; rfl⟩
      (fun i H2 _ h2 => SqT.of (R.same h2.1).top) ?_ ?_⟩
    · rintro i x H2 hx ⟨s2, h2, h3⟩
      have hi := (List.getElem?_eq_some_iff.mp hx).1
      rw [rowsV_len, hLP] at hi
      have h4 := W.sz.p4
      refine ⟨rfl, _, h3, by rw [List.length_replicate]; exact small1000 (by omega), Same.upd_to s2 (s1.free hat), ?_, ?_⟩
      · rw [upd_ne (ne_of h2 h3 (by intro z; cases z))]
        exact h2
      · rw [upd_same, ← List.replicate_succ']
    · rintro H2 ⟨s2, h2, h3⟩
      rw [rowsV_len] at h3
      -- order = []
      refine ⟨Nat.zero_le _, fun od hod => ?_⟩
      have NN : GNew H dn at_ od := ⟨hdn, s1.free hat, s2.free hod, ne_of_none upd_same hat, ne_of_none h2 hod, ne_of_none h3 hod⟩
      have G0 : GAt H (upd H2 od (.lst [])) dn at_ od (run S (rowsOf P o) 0) := by
        refine ⟨s2.trans (Same.upd_new hod), Same.upd_new hod _ _ h2, ?_, [], upd_same, Ats.nil, rfl⟩
        rw [Same.upd_new hod _ _ h3, ← natsV_zeros]
        show _ = some (HO.lst (natsV (List.replicate (rowsOf P o).length 0)))
        rw [rowsOf_len, hLP]
      -- moved = True; while moved
      refine ⟨fun m σ H3 => ∃ (n : Nat) (mv : Bool) (x6 x7 x8 : Option V), σ = [some (.ref r), some (.int S), some (.ref dn), some (.ref at_), some (.ref od), some (.bl mv), x6, x7, x8, none, none] ∧
          GAt H H3 dn at_ od (run S (rowsOf P o) n) ∧ n ≤ o.length ∧ (mv = true → m = o.length + 1 - n) ∧ (mv = false → m = 0 ∧ pick S (rowsOf P o) (run S (rowsOf P o) n) = none),
        ⟨o.length + 1, 0, true, none, none, none, rfl, G0, Nat.zero_le _, fun _ => rfl, fun z => nomatch z⟩, ?_⟩
      rintro m σ H3 ⟨n, mv, x6, x7, x8, rfl, A3, hn, hm1, hm2⟩
      refine ⟨_, rfl, mv, rfl, ?_⟩
      cases mv with
      | false =>
        obtain ⟨_, hpick⟩ := hm2 rfl
        refine iteF ⟨_, rfl, ?_⟩
        have hno : n = o.length := by
          rcases Nat.lt_or_ge n o.length with h | h
          · exact absurd hpick (pick_moves hp0 W.od h)
          · omega
        subst hno
        obtain ⟨L, l1, l2, l3⟩ := A3.od
        exact k H3 od L A3.same NN.o0 l1 l2 l3
      | true =>
        have hm := hm1 rfl
        refine iteT ⟨fun σ' H' => ∃ m', m' < m ∧ ∃ (n : Nat) (mv : Bool) (x6 x7 x8 : Option V), σ' = [some (.ref r), some (.int S), some (.ref dn), some (.ref at_), some (.ref od), some (.bl mv), x6, x7, x8, none, none] ∧
          GAt H H' dn at_ od (run S (rowsOf P o) n) ∧ n ≤ o.length ∧ (mv = true → m' = o.length + 1 - n) ∧ (mv = false → m' = 0 ∧ pick S (rowsOf P o) (run S (rowsOf P o) n) = none), fun σ' H' h => h, ?_⟩
        -- moved = False; for machine, row in enumerate(rows)
        refine ⟨_, rfl, r, rowsV LL, rfl, SqT.of (R.same A3.same).top, for_enumT (xs := rowsV LL)
          (fun i σ H4 => ∃ (mv : Bool) (x6 x7 x8 : Option V), σ = [some (.ref r), some (.int S), some (.ref dn), some (.ref at_), some (.ref od), some (.bl mv), x6, x7, x8, none, none] ∧ Same H H4 ∧
            (mv = false → GAt H H4 dn at_ od (run S (rowsOf P o) n) ∧ ∀ j, j < i → able S (rowsOf P o) (run S (rowsOf P o) n).ats (run S (rowsOf P o) n).ord j = none) ∧
            (mv = true → GAt H H4 dn at_ od (run S (rowsOf P o) (n + 1)) ∧ pick S (rowsOf P o) (run S (rowsOf P o) n) ≠ none))
          ⟨false, x6, x7, x8, rfl, A3.same, fun _ => ⟨A3, fun j hj => absurd hj (Nat.not_lt_zero _)⟩, fun z => nomatch z⟩
          (fun i σ H4 _ ⟨_, _, _, _, _, s4, _⟩ => SqT.of (R.same s4).top) ?_ ?_⟩
        · rintro i v σ H4 p hv ⟨mv, y6, y7, y8, rfl, s4, hF, hT⟩ hp
          obtain ⟨q, hq, rfl⟩ := of_rowsV hv
          have hqm := List.mem_of_getElem? hq
          obtain ⟨hiP, hrow⟩ := mem_row eR hq
          have s5 : Same H4 (upd H4 p (.tup [.int (i : Nat), .ref q.1])) := Same.upd_new hp
          refine ⟨p, _, rfl, SqT.of upd_same, rfl, _, _, rfl, _, _, rfl, rfl, ?_⟩
          refine ⟨_, rfl, mv, rfl, ?_⟩
          cases mv with
          | true =>
            obtain ⟨A4, hpk⟩ := hT rfl
            refine iteF (iteF ?_)
            exact ⟨true, _, _, _, rfl, s4.trans s5, (fun z => nomatch z), fun _ => ⟨A4.same' s5, hpk⟩⟩
          | false =>
            obtain ⟨A4, hbef⟩ := hF rfl
            have A5 := A4.same' s5
            have I := gi_run (S := S) (R := rowsOf P o) n
            have hil : i < (run S (rowsOf P o) n).ats.length := by rw [I.la, rowsOf_len]; exact hiP
            have hat5 := at_of (j := i) rfl (natsV_at hil)
            refine iteT ⟨_, rfl, _, rfl, at_, _, _, _, rfl, rfl, SqL.of A5.ats, hat5, _, rfl, q.1, rf q.2, rfl, .inr (SqT.of ((R.same A5.same).row q hqm)), _, _, rfl, rfl, _, rfl, ?_⟩
            refine ite2 (fun c => ?_) (fun c => ?_)
            · -- deed = row[at[machine]]
              have c' : (((run S (rowsOf P o) n).ats.getD i 0 : Nat) : Int) < ((rf q.2).length : Nat) := of_decide_eq_true c
              rw [rf_len] at c'
              have hai : (run S (rowsOf P o) n).ats.getD i 0 < q.2.length := by omega
              have hd : q.2[(run S (rowsOf P o) n).ats.getD i 0]? = some q.2[(run S (rowsOf P o) n).ats.getD i 0] := List.getElem?_eq_getElem hai
              generalize q.2[(run S (rowsOf P o) n).ats.getD i 0] = d at hd
              have hrowd : ((rowsOf P o).getD i [])[(run S (rowsOf P o) n).ats.getD i 0]? = some d.2 := by
                rw [rowsOf_at hiP, ← hrow]
                exact ds_at hd
              have hA5 : upd H4 p (.tup [.int (i : Nat), .ref q.1]) d.1 = some (.tup (dv d.2)) := ((R.same A5.same).deed q hqm).get hd
              refine ⟨_, rfl, _, rfl, _, rfl, at_, _, _, _, rfl, rfl, SqL.of A5.ats, hat5, q.1, _, _, _, rfl, rfl, SqT.of ((R.same A5.same).row q hqm), at_of (j := (run S (rowsOf P o) n).ats.getD i 0) rfl (rf_at hd), ?_⟩
              -- all([other in done for other in needed(deed, stages)])
              refine ⟨_, rfl, _, rfl, d.1, d.2, S, rfl, hA5, fun H6 q6 L6 s6 hq6 hL6 eL6 => ⟨q6, rfl, ⟨_, SqT.of hq6⟩, fun D hD => ?_⟩⟩
              have A6 := A5.same' s6
              refine lc_tup (K := K) (a := q6) (xs := rf L6) (fun i H7 => Same H6 H7 ∧ H7 D = some (.lst (((ds L6).take i).map fun z => V.bl (decide (z ∈ (run S (rowsOf P o) n).ord))))) ⟨Same.upd_new hD, upd_same⟩
                (fun i H7 _ h7 => SqT.of (h7.1 _ _ hq6)) ?_ ?_
              · rintro j x H7 hx ⟨s7, hD7⟩
                obtain ⟨z, hz, rfl⟩ := of_rf hx
                refine ⟨rfl, _, rfl, _, rfl, dn, _, rfl, DGet.t (k := keyOf z.2) (s7 _ _ A6.dn) (At.key (s7 _ _ (hL6.get hz))), _, hD7, ?_, Same.upd_to s7 hD, ?_⟩
                · rw [List.length_map, List.length_take]
                  have h1 : (needD S d.2).length ≤ 2 := by
                    unfold needD
                    split <;> split <;> simp
                  rw [eL6]
                  exact small1000 (by omega)
                · rw [upd_same, map_pfx _ (ds_at hz), dk_some]
              · rintro H7 ⟨s7, hD7⟩
                have A7 := A6.same' s7
                have hbs : ((ds L6).take (rf L6).length).map (fun z => V.bl (decide (z ∈ (run S (rowsOf P o) n).ord))) = ((ds L6).map fun z => decide (z ∈ (run S (rowsOf P o) n).ord)).map V.bl := by
                  rw [rf_len, List.take_of_length_le (by rw [ds_len]; exact Nat.le_refl _), List.map_map]
                  rfl
                rw [hbs] at hD7
                refine ⟨D, _, rfl, SqL.of hD7, _, rfl, ?_⟩
                rw [eL6, List.all_map]
                have hA7 : H7 d.1 = some (.tup (dv d.2)) := s7 _ _ (s6 _ _ hA5)
                refine ite2 (fun c2 => ?_) (fun c2 => ?_)
                · -- the deed comes
                  have hall : ∀ z ∈ needD S d.2, z ∈ (run S (rowsOf P o) n).ord := fun z hz => of_decide_eq_true (List.all_eq_true.mp c2 z hz)
                  have hab := able_of (S := S) (R := rowsOf P o) (ats := (run S (rowsOf P o) n).ats) (done := (run S (rowsOf P o) n).ord) hrowd hall
                  have hpk := pick_at (g := run S (rowsOf P o) n) (by rw [rowsOf_len]; exact hiP) hab hbef
                  have erun := step_some hpk
                  obtain ⟨n1, n2⟩ := ord_ok (P := P) W.od (n + 1)
                  have hnot : d.2 ∉ (run S (rowsOf P o) n).ord := by
                    rw [erun] at n1
                    have n1' : ((run S (rowsOf P o) n).ord ++ [d.2]).Nodup := n1
                    intro hm
                    exact (List.nodup_append.mp n1').2.2 _ hm _ (List.mem_singleton.mpr rfl) rfl
                  obtain ⟨L, hL, hLA, eL⟩ := A7.od
                  have hordlen : (run S (rowsOf P o) n).ord.length ≤ 192 := by
                    have := nodup_sub_len (ord_ok (P := P) W.od n).1 (ord_ok (P := P) W.od n).2
                    have := W.small
                    omega
                  have hLlen : L.length ≤ 192 := by
                    rw [← ds_len, eL]
                    exact hordlen
                  have e1 : H7 dn ≠ none := by rw [A7.dn]; simp
                  refine ⟨_, rfl, _, rfl, dn, _, rfl, DPut.t (k := keyOf d.2) A7.dn (At.key hA7) (by rw [dk_len]; exact small1000 (by omega)), ?_⟩
                  have hL8 : upd H7 dn (.dT (putK (dk (run S (rowsOf P o) n).ord) (keyOf d.2) (.bl true))) od = some (.lst (rf L)) := by rw [upd_ne NN.do_.symm]; exact hL
                  refine ⟨_, rfl, .inl ⟨rfl, _, SqL.of hL8⟩, _, rfl, od, _, _, rfl, rfl, hL8, by rw [rf_len]; exact small1000 (by omega), ?_⟩
                  have hat8 : upd (upd H7 dn (.dT (putK (dk (run S (rowsOf P o) n).ord) (keyOf d.2) (.bl true)))) od (.lst (rf L ++ [.ref d.1])) at_ = some (.lst (natsV (run S (rowsOf P o) n).ats)) := by
                    rw [upd_ne NN.ao, upd_ne NN.da.symm]
                    exact A7.ats
                  refine ⟨_, rfl, _, rfl, at_, _, _, _, rfl, rfl, SqL.of hat8, hat5, _, _, rfl, rfl, _, rfl, _, rfl, at_, _, _, i, rfl, rfl, hat8, by rw [natsV_len]; exact ixN_nat hil, ?_⟩
                  have A9 := GAt.bump (m := i) NN A7 hnot hA7 L hL hLA eL
                  rw [← erun] at A9
                  exact ⟨true, _, _, _, rfl, A9.same, (fun z => nomatch z), fun _ => ⟨A9, by rw [hpk]; simp⟩⟩
                · -- it can't
                  have hoff : able S (rowsOf P o) (run S (rowsOf P o) n).ats (run S (rowsOf P o) n).ord i = none := able_not hrowd (Bool.eq_false_iff.mpr c2)
                  refine ⟨false, _, _, _, rfl, A7.same, fun _ => ⟨A7, fun j hj => ?_⟩, fun z => nomatch z⟩
                  rcases Nat.lt_or_ge j i with h | h
                  · exact hbef j h
                  · have : j = i := by omega
                    rw [this]
                    exact hoff
            · -- the row is done
              have hnone : ((rowsOf P o).getD i [])[(run S (rowsOf P o) n).ats.getD i 0]? = none := by
                rw [rowsOf_at hiP, ← hrow, List.getElem?_eq_none_iff, ds_len]
                have c' : ¬ (((run S (rowsOf P o) n).ats.getD i 0 : Nat) : Int) < ((rf q.2).length : Nat) := fun z => c (decide_eq_true z)
                rw [rf_len] at c'
                omega
              refine ⟨false, _, _, _, rfl, A5.same, fun _ => ⟨A5, fun j hj => ?_⟩, fun z => nomatch z⟩
              rcases Nat.lt_or_ge j i with h | h
              · exact hbef j h
              · have : j = i := by omega
                rw [this]
                exact able_off hnone
        · rintro σ H4 ⟨mv, y6, y7, y8, rfl, s4, hF, hT⟩
          cases mv with
          | true =>
            obtain ⟨A4, hpk⟩ := hT rfl
            have hlt : n < o.length := by
              rcases Nat.lt_or_ge n o.length with h | h
              · exact h
              · have : n = o.length := by omega
                subst this
                exact absurd (pick_ends hp0 W.od) hpk
            exact ⟨o.length + 1 - (n + 1), by omega, n + 1, true, _, _, _, rfl, A4, hlt, fun _ => rfl, fun z => nomatch z⟩
          | false =>
            obtain ⟨A4, hno⟩ := hF rfl
            refine ⟨0, by omega, n, false, _, _, _, rfl, A4, hn, (fun z => nomatch z), fun _ => ⟨rfl, pick_no fun j hj => hno j ?_⟩⟩
            rw [rowsV_len, hLP]
            rw [rowsOf_len] at hj
            exact hj
end
end K14
/-! ## K14D -/
namespace K14
open PySem L2 PySem.Spec PyProof.Rows

/-! ### the schedule's attributes -/
def sf0 (P S N : Nat) : List (Str × V) := putF "portions" (.int (N : Int)) (putF "stages" (.int (S : Int)) (putF "machines" (.int (P : Int)) []))
def sf (P S N : Nat) (r : Addr) : List (Str × V) := putF "rows" (.ref r) (sf0 P S N)
theorem sf_rows (P S N : Nat) (r : Addr) : (sf P S N r).lookup ("rows" : Str) = some (.ref r) := by
  unfold sf
  rw [lookup_putF, if_pos rfl]
theorem sf_stages (P S N : Nat) (r : Addr) : (sf P S N r).lookup ("stages" : Str) = some (.int (S : Int)) := by
  unfold sf sf0
  rw [lookup_putF, if_neg (by decide +kernel), lookup_putF, if_neg (by decide +kernel), lookup_putF, if_pos rfl]
theorem sf0_len (P S N : Nat) : (sf0 P S N).length < 1000 := by
  unfold sf0
  have h1 := length_putF "machines" (V.int (P : Int)) []
  have h2 := length_putF "stages" (V.int (S : Int)) (putF "machines" (.int (P : Int)) [])
  have h3 := length_putF "portions" (V.int (N : Int)) (putF "stages" (.int (S : Int)) (putF "machines" (.int (P : Int)) []))
  have h0 : ([] : List (Str × V)).length = 0 := rfl
  omega
/-- what is asked of the class -/
structure TC (K : PySem.W.Frag) (C : Addr) : Prop where
  cl : Cls K C
  nM : NoAttr K C "machines"
  nS : NoAttr K C "stages"
  nP : NoAttr K C "portions"
  nR : NoAttr K C "rows"

/-- the scope of the comprehension that __init__ has -/
def lcScope : Expr → Scope
  | .ListComp _ _ sc _ => sc
  | _ => { kind := .function, names := [], isGenerator := false, isCoroutine := false }
def initComp : Expr := match (defBody sInit).getD 5 (.Pass ⟨0, 0, 0, 0⟩) with
  | .Assign _ (.Call _ (e :: _) _ _) _ => e
  | _ => .Constant .none 0 ⟨0, 0, 0, 0⟩

section
variable {P : Program} {w : World} {K : PySem.W.Frag} {mg : Str → Option Value} {base : Heap}
/-! ### Schedule.__init__, on lawful rows -/
def spInit (C : Addr) : Sp := fun vs H Q _ => ∃ (x dx r : Addr) (LL : RL) (P S N : Nat) (o : List Dd), vs = [.ref x, .int (P : Int), .int (S : Int), .int (N : Int), .ref r] ∧ H x = some (.ins C dx []) ∧ RowsAt H r LL ∧ rowsD LL = rowsOf P o ∧ Lw P S N o ∧
  ∀ (H' : Hp) (r' : Addr) (LL' : RL), (∀ b u, H b = some u → b ≠ x → H' b = some u) → H' x = some (.ins C dx (sf P S N r')) → RowsAt H' r' LL' → rowsD LL' = rowsOf P o → Q .non H'
theorem scInit : FnScope ["self", "machines", "stages", "portions", "rows", "row", "deed"] ["self", "machines", "stages", "portions", "rows"] (defScope sInit) := ⟨rfl, rfl, rfl, by decide +kernel, rfl, by decide +kernel, by decide +kernel⟩
theorem ok_init {f C : Addr} {fd : FuncData} (F : Fun K "__init__" "Schedule.__init__" sInit f fd) (T : Tx mg) (TK : TC K C) (DZ : Def P w K mg base "check_sizes" 2 ["machines", "stages", "portions"] spSizes)
    (DA : Def P w K mg base "are_rows" 3 ["rows", "machines", "stages", "portions"] spAreRows) (DO : Def P w K mg base "orderly" 2 ["rows", "stages"] spOrderly) :
    FnOk P w K mg base CX0 4 f fd ["self", "machines", "stages", "portions", "rows"] (spInit C) := by
  refine F.ok scInit (fun vs H Q E h => ?_) (fun cdv A outer s H vs Q E hr h => ?_)
  · obtain ⟨x, dx, r, LL, P, S, N, o, rfl, _⟩ := h
    rfl
  · obtain ⟨x, dx, r, LL, P, S, N, o, rfl, hx, R, eR, W, k⟩ := h
    have nd := scInit.nd
    have hr2 : Room 2 _ := hr.mono (by decide)
    refine ⟨_, pss_cons (ps_expr (pe_def DZ hr2 (by rfl) (pa_cons (pv 1) (pa_cons (pv 2) (pa_cons (pv 3) pa_nil)))))
      (pss_cons (ps_if (pt_not (pt_val (pe_def DA hr (by rfl) (pa_cons (pv 4) (pa_cons (pv 1) (pa_cons (pv 2) (pa_cons (pv 3) pa_nil))))))) pss_never pss_nil)
      (pss_cons (ps_fld (pv 0) (pv 1) rfl) (pss_cons (ps_fld (pv 0) (pv 2) rfl) (pss_cons (ps_fld (pv 0) (pv 3) rfl)
      (pss_cons (ps_fld (pv 0) (pe_callTy (T := "tuple") call_tuple_of (by rfl) T.tuple boot_tuple (pa_cons
          (pe_lc (own := [("row", 5)]) (g := gName 5) (tt := tYes) rfl nd (pi_tup (pv 4)) (blkOk_by (N := ["self", "machines", "stages", "portions", "rows", "row", "deed"]) (sc := defScope sInit) (by decide +kernel))
            (fun _ _ _ _ _ => pg_name (i := 5) nd rfl (.inl rfl)) (fun _ _ _ _ _ => pts_nil)
            (fun _ _ _ _ _ => pe_callTy (T := "tuple") (tupleOf_at (K := K) rfl) (by rfl) T.tuple boot_tuple (pa_cons
              (pe_lc (own := [("deed", 6)]) (g := gName 6) (tt := tYes) rfl nd (piTup_at (K := K) rfl (pv 5)) (blkOk_by (N := ["self", "machines", "stages", "portions", "rows", "row", "deed"]) (sc := lcScope initComp) (by decide +kernel))
                (fun _ _ _ _ _ => pg_name (i := 6) nd rfl (.inl rfl)) (fun _ _ _ _ _ => pts_nil)
                (fun _ _ _ _ _ => pe_callTy (T := "tuple") (tupleT_at (K := K) rfl) (by rfl) T.tuple boot_tuple (pa_cons (pv 6) pa_nil))) pa_nil))) pa_nil)) rfl)
      (pss_one (ps_if (pt_cmpR op_lt (pe_callB call_len_seq (by rfl) T.len PySem.boot_len (pa_cons (pe_def DO hr2 (by rfl) (pa_cons (pe_fld (pv 0) rfl) (pa_cons (pv 2) pa_nil))) pa_nil))
        (pe_op op_mul (pe_op op_mul pe_int (pv 3)) (pv 2)) (nomark _)) pss_never pss_nil))))))), ?_⟩
    -- check_sizes; are_rows
    refine ⟨_, rfl, _, rfl, _, rfl, P, S, N, rfl, W.sz, ?_⟩
    refine ⟨_, rfl, _, rfl, _, rfl, _, rfl, r, LL, P, S, N, o, rfl, R, eR, W, fun H1 s1 => ⟨true, rfl, iteF ?_⟩⟩
    have hx1 := s1 _ _ hx
    -- self.machines, self.stages, self.portions
    refine ⟨_, rfl, _, rfl, x, C, dx, [], rfl, hx1, TK.cl, TK.nM, (by show 0 < 1000; decide), ?_⟩
    refine ⟨_, rfl, _, rfl, x, C, dx, _, rfl, upd_same, TK.cl, TK.nS, (by show 1 < 1000; decide), ?_⟩
    refine ⟨_, rfl, _, rfl, x, C, dx, _, rfl, upd_same, TK.cl, TK.nP, (by have := length_putF "stages" (V.int (S : Int)) (putF "machines" (.int (P : Int)) []); have h0 : (putF ("machines" : Str) (.int (P : Int)) []).length = 1 := rfl; omega), ?_⟩
    rw [upd_upd, upd_upd]
    -- self.rows
    have hx3 : upd H1 x (.ins C dx (sf0 P S N)) x = some (.ins C dx (sf0 P S N)) := upd_same
    have R3 : RowsAt (upd H1 x (.ins C dx (sf0 P S N))) r LL := by
      have R1 := R.same s1
      have no : ∀ {b : Addr} {xs : List V}, H1 b = some (.tup xs) → upd H1 x (.ins C dx (sf0 P S N)) b = some (.tup xs) := fun e => by
        rw [upd_ne (ne_of e hx1 (by intro z; cases z))]
        exact e
      exact ⟨no R1.top, fun q hq => no (R1.row q hq), fun q hq p hp => no (R1.deed q hq p hp)⟩
    have kp3 : ∀ b u, H b = some u → b ≠ x → upd H1 x (.ins C dx (sf0 P S N)) b = some u := fun b u e hb => by
      rw [upd_ne hb]
      exact s1 b u e
    have e3 : ∃ H3, upd H1 x (.ins C dx (putF "portions" (.int (N : Int)) (putF "stages" (.int (S : Int)) (putF "machines" (.int (P : Int)) [])))) = H3 ∧ H3 x = some (.ins C dx (sf0 P S N)) ∧ RowsAt H3 r LL ∧ ∀ b u, H b = some u → b ≠ x → H3 b = some u := ⟨_, rfl, hx3, R3, kp3⟩
    clear hx3 R3 kp3
    obtain ⟨H3, e3, hx3, R3, kp3⟩ := e3
    rw [e3]
    refine ⟨_, rfl, r, rfl, ⟨_, SqT.of R3.top⟩, fun D hD => lc_tup (K := K) (a := r) (xs := rowsV LL)
      (fun i H4 => ∃ LL' : RL, Same H3 H4 ∧ H4 D = some (.lst (rowsV LL')) ∧ LL'.map (·.2) = (LL.take i).map (·.2) ∧ ∀ q ∈ LL', H4 q.1 = some (.tup (rf q.2)))
      ⟨[], Same.upd_new hD, upd_same, rfl, fun q hq => by simp at hq⟩ (fun i H4 _ ⟨_, s4, _⟩ => SqT.of (R3.same s4).top) ?_ ?_⟩
    · rintro i v H4 hv ⟨LL', s4, hD4, e4, h4⟩
      obtain ⟨q, hq, rfl⟩ := of_rowsV hv
      have hqm := List.mem_of_getElem? hq
      have R4 := R3.same s4
      refine ⟨rfl, _, rfl, q.1, rfl, ⟨_, SqT.of (R4.row q hqm)⟩, fun D2 hD2 => lc_tup (K := K) (a := q.1) (xs := rf q.2)
        (fun j H5 => Same H4 H5 ∧ H5 D2 = some (.lst (rf (q.2.take j)))) ⟨Same.upd_new hD2, by rw [upd_same]; rfl⟩ (fun j H5 _ h5 => SqT.of (h5.1 _ _ (R4.row q hqm))) ?_ ?_⟩
      · rintro j y H5 hy ⟨s5, h5⟩
        obtain ⟨d, hd, rfl⟩ := of_rf hy
        have hA : H5 d.1 = some (.tup (dv d.2)) := s5 _ _ ((R4.deed q hqm).get hd)
        have hlen := row_le W eR hq
        refine ⟨rfl, _, rfl, d.1, dv d.2, rfl, SqT.of hA, _, h5, ?_, Same.upd_to s5 hD2, ?_⟩
        · rw [rf_len, List.length_take]
          exact small1000 (by omega)
        · rw [upd_same]
          unfold rf
          rw [map_pfx _ hd]
      · rintro H5 ⟨s5, h5⟩
        rw [rf_len, List.take_length] at h5
        refine ⟨D2, rf q.2, rfl, .inl ⟨SqL.of h5, fun l hl => ?_⟩⟩
        have s6 : Same H5 (upd H5 l (.tup (rf q.2))) := Same.upd_new hl
        have hD6 := s6 _ _ (s5 _ _ hD4)
        have hil := (List.getElem?_eq_some_iff.mp hq).1
        have hLL : LL.length ≤ 4 := by
          have := W.sz.p4
          rw [← rowsD_len, eR, rowsOf_len]
          exact this
        have hl4 : LL'.length ≤ 4 := by
          have := congrArg List.length e4
          rw [List.length_map, List.length_map, List.length_take] at this
          omega
        refine ⟨_, hD6, by rw [rowsV_len]; exact small1000 (by omega), LL' ++ [(l, q.2)], Same.upd_to ((s4.trans s5).trans s6) hD, ?_, ?_, ?_⟩
        · rw [upd_same]
          unfold rowsV
          rw [List.map_append]
          rfl
        · rw [List.map_append, e4, map_pfx _ hq]
          rfl
        · intro z hz
          have hz6 : upd H5 l (.tup (rf q.2)) z.1 = some (.tup (rf z.2)) := by
            rcases List.mem_append.mp hz with c | c
            · exact s6 _ _ (s5 _ _ (h4 z c))
            · rw [List.mem_singleton.mp c]
              exact upd_same
          rw [upd_ne (ne_of hz6 hD6 (by intro c; cases c))]
          exact hz6
    · rintro H4 ⟨LL', s4, hD4, e4, h4⟩
      rw [rowsV_len, List.take_length] at e4
      refine ⟨D, rowsV LL', rfl, .inl ⟨SqL.of hD4, fun r' hr' => ?_⟩⟩
      have s5 : Same H4 (upd H4 r' (.tup (rowsV LL'))) := Same.upd_new hr'
      have hx5 := s5 _ _ (s4 _ _ hx3)
      have eD : rowsD LL' = rowsOf P o := by
        rw [← eR]
        unfold rowsD
        have := congrArg (List.map ds) e4
        rw [List.map_map, List.map_map] at this
        exact this
      have R5 : RowsAt (upd H4 r' (.tup (rowsV LL'))) r' LL' := by
        refine ⟨upd_same, fun q hq => s5 _ _ (h4 q hq), fun q hq p hp => ?_⟩
        have : q.2 ∈ LL.map (·.2) := by
          rw [← e4]
          exact List.mem_map.mpr ⟨q, hq, rfl⟩
        obtain ⟨q0, hq0, e0⟩ := List.mem_map.mp this
        rw [← e0] at hp
        exact s5 _ _ (s4 _ _ (R3.deed q0 hq0 p hp))
      refine ⟨_, rfl, x, C, dx, _, rfl, hx5, TK.cl, TK.nR, sf0_len P S N, ?_⟩
      have R6 : RowsAt (upd (upd H4 r' (.tup (rowsV LL'))) x (.ins C dx (sf P S N r'))) r' LL' := by
        have no : ∀ {b : Addr} {xs : List V}, upd H4 r' (.tup (rowsV LL')) b = some (.tup xs) → upd (upd H4 r' (.tup (rowsV LL'))) x (.ins C dx (sf P S N r')) b = some (.tup xs) := fun e => by
          rw [upd_ne (ne_of e hx5 (by intro z; cases z))]
          exact e
        exact ⟨no R5.top, fun q hq => no (R5.row q hq), fun q hq p hp => no (R5.deed q hq p hp)⟩
      -- len(orderly(self.rows, stages)) < 2 * portions * stages
      refine ⟨_, rfl, x, C, dx, _, _, rfl, upd_same, TK.cl, TK.nR, sf_rows P S N r', _, rfl, r', LL', P, S, N, o, rfl, R6, eD, W, fun H7 l L s7 _ hl hLA eL => ?_⟩
      have hlen : ((rf L).length : Nat) = 2 * S * N := by
        rw [rf_len, ← ds_len, eL, run_len W.p0 W.od _ (Nat.le_refl _), W.ln]
      refine ⟨l, rf L, rfl, .inl (SqL.of hl), _, rfl, _, _, rfl, rfl, .inl ⟨by decide, by decide⟩, _, rfl, _, _, rfl, rfl, .inr ⟨?_, ?_⟩, _, _, rfl, rfl, _, rfl, ?_⟩
      · have := W.sz.s12
        omega
      · have := W.sz.s12
        omega
      · have e1 : ¬ (((rf L).length : Nat) : Int) < 2 * (N : Int) * (S : Int) := by
          rw [hlen, Int.natCast_mul, Int.natCast_mul]
          have : (2 : Int) * (N : Int) * (S : Int) = ((2 : Nat) : Int) * (S : Int) * (N : Int) := by
            rw [Int.mul_assoc, Int.mul_assoc, Int.mul_comm (N : Int)]
            rfl
          rw [this]
          exact Int.lt_irrefl _
        rw [decide_eq_false e1]
        refine iteF ?_
        exact k H7 r' LL' (fun b u e hb => s7 _ _ (by rw [upd_ne hb]; exact s5 _ _ (s4 _ _ (kp3 b u e hb)))) (s7 _ _ upd_same) (R6.same s7) eD

/-! ### needs(schedule, deed) -/
def spNeeds (C : Addr) : Sp := fun vs H Q _ => ∃ (x dx a r : Addr) (P S N : Nat) (d : Dd), vs = [.ref x, .ref a] ∧ H x = some (.ins C dx (sf P S N r)) ∧ (H a = some (.tup (dv d)) ∨ H a = some (.lst (dv d))) ∧ GotN S d H Q
theorem scNeeds : FnScope ["schedule", "deed"] ["schedule", "deed"] (defScope sNeeds) := ⟨rfl, rfl, rfl, by decide +kernel, rfl, by decide +kernel, by decide +kernel⟩
theorem ok_needs {f C : Addr} {fd : FuncData} (F : Fun K "needs" "needs" sNeeds f fd) (T : Tx mg) (TK : TC K C) (DN : Def P w K mg base "needed" 1 ["deed", "stages"] spNeeded) : FnOk P w K mg base CX0 2 f fd ["schedule", "deed"] (spNeeds C) := by
  refine F.ok scNeeds (fun vs H Q E h => ?_) (fun cdv A outer s H vs Q E hr h => ?_)
  · obtain ⟨x, dx, a, r, P, S, N, d, rfl, _⟩ := h
    rfl
  · obtain ⟨x, dx, a, r, P, S, N, d, rfl, hx, ha, k⟩ := h
    refine ⟨_, pss_one (ps_ret (pe_def DN hr (by rfl) (pa_cons (pe_callTy (T := "tuple") call_tuple_of (by rfl) T.tuple boot_tuple (pa_cons (pv 1) pa_nil)) (pa_cons (pe_fld (pv 0) rfl) pa_nil)))), ?_⟩
    rcases ha with ha | ha
    · refine ⟨_, rfl, a, dv d, rfl, .inr ⟨SqT.of ha, _, rfl, x, C, dx, _, _, rfl, hx, TK.cl, TK.nS, sf_stages P S N r, a, d, S, rfl, ha, k⟩⟩
    · refine ⟨_, rfl, a, dv d, rfl, .inl ⟨SqL.of ha, fun l hl => ?_⟩⟩
      have s1 : Same H (upd H l (.tup (dv d))) := Same.upd_new hl
      exact ⟨_, rfl, x, C, dx, _, _, rfl, s1 _ _ hx, TK.cl, TK.nS, sf_stages P S N r, l, d, S, rfl, upd_same, fun H' p L s2 => k H' p L (s1.trans s2)⟩

/-! ### some_order(schedule) -/
def spSome (C : Addr) : Sp := fun vs H Q _ => ∃ (x dx r : Addr) (LL : RL) (P S N : Nat) (o : List Dd), vs = [.ref x] ∧ H x = some (.ins C dx (sf P S N r)) ∧ RowsAt H r LL ∧ rowsD LL = rowsOf P o ∧ Lw P S N o ∧
  ∀ (H' : Hp) (p : Addr) (L : DL), Same H H' → H' p = some (.tup (rf L)) → Ats H' L → ds L = (run S (rowsOf P o) o.length).ord → Q (.ref p) H'
theorem scSome : FnScope ["schedule"] ["schedule"] (defScope sSome) := ⟨rfl, rfl, rfl, by decide +kernel, rfl, by decide +kernel, by decide +kernel⟩
theorem ok_some {f C : Addr} {fd : FuncData} (F : Fun K "some_order" "some_order" sSome f fd) (T : Tx mg) (TK : TC K C) (DO : Def P w K mg base "orderly" 2 ["rows", "stages"] spOrderly) : FnOk P w K mg base CX0 3 f fd ["schedule"] (spSome C) := by
  refine F.ok scSome (fun vs H Q E h => ?_) (fun cdv A outer s H vs Q E hr h => ?_)
  · obtain ⟨x, dx, r, LL, P, S, N, o, rfl, _⟩ := h
    rfl
  · obtain ⟨x, dx, r, LL, P, S, N, o, rfl, hx, R, eR, W, k⟩ := h
    refine ⟨_, pss_one (ps_ret (pe_callTy (T := "tuple") call_tuple_of (by rfl) T.tuple boot_tuple (pa_cons (pe_def DO hr (by rfl) (pa_cons (pe_fld (pv 0) rfl) (pa_cons (pe_fld (pv 0) rfl) pa_nil))) pa_nil))), ?_⟩
    refine ⟨_, rfl, x, C, dx, _, _, rfl, hx, TK.cl, TK.nR, sf_rows P S N r, _, rfl, x, C, dx, _, _, rfl, hx, TK.cl, TK.nS, sf_stages P S N r, r, LL, P, S, N, o, rfl, R, eR, W, fun H1 l L s1 _ hl hLA eL => ?_⟩
    refine ⟨l, rf L, rfl, .inl ⟨SqL.of hl, fun p hp => ?_⟩⟩
    have s2 : Same H1 (upd H1 p (.tup (rf L))) := Same.upd_new hp
    exact k _ p L (s1.trans s2) upd_same (hLA.same s2) eL
end
end K14
/-! ## K14L1 -/
namespace K14
open PySem L2 PySem.Spec PyProof.Rows

def intsV (l : List Int) : List V := l.map V.int
theorem intsV_len {l : List Int} : (intsV l).length = l.length := by unfold intsV; rw [List.length_map]
theorem intsV_at {l : List Int} {i : Nat} (h : i < l.length) : (intsV l)[i]? = some (.int l[i]) := by
  unfold intsV
  rw [List.getElem?_map, List.getElem?_eq_getElem h]
  rfl
theorem of_intsV {l : List Int} {i : Nat} {v : V} (h : (intsV l)[i]? = some v) : ∃ z, l[i]? = some z ∧ v = .int z := by
  unfold intsV at h
  rw [List.getElem?_map] at h
  cases e : l[i]? with
  | none => rw [e] at h; cases h
  | some p => rw [e] at h; exact ⟨p, rfl, (Option.some.inj h).symm⟩
abbrev NN (l : List Int) : Prop := ∀ z ∈ l, 0 ≤ z
theorem NN.snoc {l : List Int} {z : Int} (h : NN l) (hz : 0 ≤ z) : NN (l ++ [z]) := fun x hx => by
  rcases List.mem_append.mp hx with q | q
  · exact h x q
  · rw [List.mem_singleton.mp q]; exact hz
theorem NN.set {l : List Int} {i : Nat} {z : Int} (h : NN l) (hz : 0 ≤ z) : NN (l.set i z) := fun x hx => by
  rcases List.mem_or_eq_of_mem_set hx with q | q
  · exact h x q
  · rw [q]; exact hz
theorem intsV_snoc {l : List Int} {z : Int} : intsV l ++ [V.int z] = intsV (l ++ [z]) := by
  unfold intsV
  rw [List.map_append]
  rfl
theorem intsV_set {l : List Int} {i : Nat} {z : Int} : (intsV l).set i (V.int z) = intsV (l.set i z) := by
  unfold intsV
  rw [List.map_set]

/-- all that stood stands, but the hand at p -/
def But (p : Addr) (H H' : Hp) : Prop := ∀ b o, H b = some o → b ≠ p → H' b = some o
theorem But.same {p : Addr} {H H' H2 : Hp} (k : But p H H') (s : Same H' H2) : But p H H2 := fun b o e n => s b o (k b o e n)
theorem But.trans {p : Addr} {H H' H2 : Hp} (k : But p H H') (s : But p H' H2) : But p H H2 := fun b o e n => s b o (k b o e n) n
theorem But.of {p : Addr} {H H' : Hp} (s : Same H H') : But p H H' := fun b o e _ => s b o e
theorem But.free {p : Addr} {H H' : Hp} (k : But p H H') {b : Addr} (hp : ∃ o, H' p = some o) (h : H' b = none) : H b = none := by
  cases e : H b with
  | none => rfl
  | some o =>
    by_cases q : b = p
    · obtain ⟨u, hu⟩ := hp
      rw [q, hu] at h
      cases h
    · rw [k b o e q] at h
      cases h
/-- the hand: a list of the draws' list at l and a place -/
structure Hand (H : Hp) (p l : Addr) : Prop where
  at_ : ∃ z : Nat, H p = some (.lst [.ref l, .int (z : Int)])
  dr : ∃ ds : List Int, H l = some (.lst (intsV ds)) ∧ NN ds
theorem Hand.ne {H : Hp} {p l : Addr} (h : Hand H p l) : l ≠ p := by
  obtain ⟨⟨z, h1⟩, ds, h2, _⟩ := h
  refine ne_of h2 h1 fun e => ?_
  cases ds with
  | nil => cases e
  | cons a r => cases (HO.lst.inj e)
theorem Hand.same {H H' : Hp} {p l : Addr} (s : Same H H') (h : Hand H p l) : Hand H' p l := by
  obtain ⟨⟨z, h1⟩, ds, h2, h3⟩ := h
  exact ⟨⟨z, s _ _ h1⟩, ds, s _ _ h2, h3⟩
theorem Hand.there {H : Hp} {p l : Addr} (h : Hand H p l) : ∃ o, H p = some o := let ⟨⟨_, h1⟩, _⟩ := h; ⟨_, h1⟩

section
variable {P : Program} {w : World} {K : PySem.W.Frag} {mg : Str → Option Value} {base : Heap}
/-! ### _law_draws -/
def spDraws (K : PySem.W.Frag) : Sp := fun vs H Q _ => ∃ (a : Addr) (ns : List Int), vs = [.ref a, .int 120] ∧ SqL K H a (intsV ns) ∧ ns.length ≤ 63 ∧ ∀ (H' : Hp) (l : Addr) (ds : List Int), Same H H' → H' l = some (.lst (intsV ds)) → NN ds → Q (.ref l) H'
theorem scDraws : FnScope ["_law_script", "_law_many", "_law_cell", "_law_rests", "_law_draws_here", "_law_k", "_law_spot", "_law_mixed"] ["_law_script", "_law_many"] (defScope lDraws) := ⟨rfl, rfl, rfl, by decide +kernel, rfl, by decide +kernel, by decide +kernel⟩
theorem ok_draws {f : Addr} {fd : FuncData} (F : Fun K "_law_draws" "_law_draws" lDraws f fd) (T : Tx mg) : FnOk P w K mg base CX0 1 f fd ["_law_script", "_law_many"] (spDraws K) := by
  refine F.ok scDraws (fun vs H Q E h => ?_) (fun cdv A outer s H vs Q E hr h => ?_)
  · obtain ⟨a, ns, rfl, _⟩ := h
    rfl
  · obtain ⟨a, ns, rfl, hS, hlen, k⟩ := h
    have nd := scDraws.nd
    refine ⟨_, pss_cons (ps_setLc (i := 3) (own := [("_law_cell", 2)]) (g := gName 2) (tt := tYes) rfl nd rfl rfl (sw_true rfl rfl rfl (by decide +kernel)) (pi_list (pv 0))
          (blkOk_by (N := ["_law_script", "_law_many", "_law_cell", "_law_rests", "_law_draws_here", "_law_k", "_law_spot", "_law_mixed"]) (sc := defScope lDraws) (by decide +kernel))
          (fun _ _ _ _ _ => pg_name (i := 2) nd rfl (.inl rfl)) (fun _ _ _ _ _ => pts_nil)
          (fun _ _ _ _ _ => pe_callB (id := "abs") call_abs (by rfl) T.abs boot_abs (pa_cons (pe_callTy (T := "int") call_int1 (by rfl) T.int boot_int (pa_cons (pv 2) pa_nil)) pa_nil)))
      (pss_cons (ps_set (i := 4) nd rfl (.inl rfl) (pe_lst pa_nil))
      (pss_cons (ps_for PassesOwn.never rfl (pi_range1 (by rfl) T.range (pa_cons (pv 1) pa_nil)) (pg_name (i := 5) nd rfl (.inl rfl))
        (pss_cons (ps_set (i := 2) nd rfl (.inl rfl) (pv 5))
        (pss_cons (ps_if (pt_cmpR op_gt (pe_callB call_len_seq (by rfl) T.len PySem.boot_len (pa_cons (pv 0) pa_nil)) pe_int (nomark _))
          (pss_cons (ps_set (i := 6) nd rfl (.inl rfl) (pe_op op_mod (pv 5) (pe_callB call_len_seq (by rfl) T.len PySem.boot_len (pa_cons (pv 0) pa_nil))))
          (pss_cons (ps_set (i := 2) nd rfl (.inl rfl) (pe_callTy (T := "int") call_int1 (by rfl) T.int boot_int (pa_cons (pe_ix ix_list (pv 0) (pv 6) (fun _ _ => rfl)) pa_nil)))
          (pss_one (ps_if (PW.pt (pw_and (pt_cmpR op_ge (pv 2) (pe_op op_pow pe_int pe_int) (nomark _)) (pw_and1 (pt_cmpR op_gt (pe_ix ix_list (pv 3) (pv 6) (fun _ _ => rfl)) pe_int (nomark _)))))
            (pss_cons (ps_expr (pe_bm PySem.F.plainAttrs_list PySem.F.slot_list_append PySem.F.type_list_append mt_append (pv 4) (pa_cons (pe_op op_mod (pe_callTy (T := "int") call_int1 (by rfl) T.int boot_int (pa_cons (pe_ix ix_list (pv 3) (pv 6) (fun _ _ => rfl)) pa_nil)) pe_int) pa_nil)))
            (pss_cons (ps_asg (pe_op op_fdiv (pe_callTy (T := "int") call_int1 (by rfl) T.int boot_int (pa_cons (pe_ix ix_list (pv 3) (pv 6) (fun _ _ => rfl)) pa_nil)) pe_int) (pg_sub (pv 3) (pv 6) set_list))
            (pss_one ps_continue))) pss_nil)))) pss_nil)
        (pss_cons (ps_set (i := 7) nd rfl (.inl rfl) (pe_op op_mod (pe_callTy (T := "int") call_int1 (by rfl) T.int boot_int (pa_cons (pe_op op_add (pe_op op_add (pe_op op_mul (pv 2) pe_int) (pe_op op_mul (pv 5) pe_int)) pe_int) pa_nil)) pe_int))
        (pss_cons (ps_set (i := 7) nd rfl (.inl rfl) (pe_op op_mod (pe_callTy (T := "int") call_int1 (by rfl) T.int boot_int (pa_cons (pe_op op_add (pe_op op_fdiv (pe_op op_mul (pv 7) (pv 7)) pe_int) (pv 7)) pa_nil)) pe_int))
        (pss_one (ps_expr (pe_bm PySem.F.plainAttrs_list PySem.F.slot_list_append PySem.F.type_list_append mt_append (pv 4) (pa_cons (pe_op op_mod (pe_callTy (T := "int") call_int1 (by rfl) T.int boot_int
          (pa_cons (pe_op op_add (pe_op op_fdiv (pe_op op_mul (pv 7) (pv 7)) pe_int) (pe_op op_mul (pv 5) pe_int)) pa_nil)) pe_int) pa_nil)))))))))
      (pss_one (ps_ret (pv 4))))), ?_⟩
    -- _law_rests = [abs(int(..)) ..]
    refine ⟨_, rfl, a, rfl, ⟨_, hS⟩, fun rl hrl => lc_list (K := K) (a := a) (xs := intsV ns)
      (fun i H2 => ∃ rs : List Int, Same H H2 ∧ H2 rl = some (.lst (intsV rs)) ∧ rs.length = i ∧ NN rs) ⟨[], Same.upd_new hrl, upd_same, rfl, fun z hz => by simp at hz⟩
      (fun i H2 _ ⟨_, s2, _⟩ => s2.seq hS) ?_ ?_⟩
    · rintro i x H2 hx ⟨rs, s2, h2, l2, n2⟩
      obtain ⟨z, hz, rfl⟩ := of_intsV hx
      have hi := (List.getElem?_eq_some_iff.mp hz).1
      refine ⟨rfl, _, rfl, .inl ⟨z, rfl, _, rfl, _, h2, by rw [intsV_len]; exact small1000 (by omega), rs ++ [if z < 0 then -z else z], Same.upd_to s2 hrl, ?_, ?_, ?_⟩⟩
      · rw [upd_same, intsV_snoc]
      · rw [List.length_append, l2]
        rfl
      · refine n2.snoc ?_
        split <;> omega
    · rintro H2 ⟨rs, s2, h2, l2, n2⟩
      rw [intsV_len] at l2
      -- _law_draws_here = []
      refine ⟨Nat.zero_le _, fun dl hdl => ?_⟩
      have hne : rl ≠ dl := ne_of_none h2 hdl
      have hdlH : H dl = none := s2.free hdl
      -- for _law_k in range(_law_many)
      refine ⟨_, rfl, 120, rfl, by decide, by decide, for_range (lo := 0) (n := 120)
        (fun i σ H3 => ∃ (rs ds : List Int) (x2 x5 x6 x7 : Option V), σ = [some (.ref a), some (.int 120), x2, some (.ref rl), some (.ref dl), x5, x6, x7] ∧ Same H H3 ∧ H3 rl = some (.lst (intsV rs)) ∧ rs.length = ns.length ∧ NN rs ∧
          H3 dl = some (.lst (intsV ds)) ∧ ds.length = i ∧ NN ds)
        ⟨rs, [], none, none, none, none, rfl, Same.upd_to s2 hdlH, by rw [upd_ne hne]; exact h2, l2, n2, upd_same, rfl, fun z hz => by simp at hz⟩ ?_ ?_⟩
      · rintro i σ H3 hi ⟨rs, ds, x2, x5, x6, x7, rfl, s3, h3, l3, n3, d3, e3, m3⟩
        have hS3 := s3.seq hS
        refine ⟨_, rfl, _, rfl, a, intsV ns, rfl, .inl hS3, _, _, rfl, rfl, _, rfl, ?_⟩
        have fin : ∀ z : Int, 0 ≤ z → ∃ (rs' ds' : List Int), Same H (upd H3 dl (.lst (intsV ds ++ [.int z]))) ∧ upd H3 dl (.lst (intsV ds ++ [.int z])) rl = some (.lst (intsV rs')) ∧ rs'.length = ns.length ∧ NN rs' ∧
            upd H3 dl (.lst (intsV ds ++ [.int z])) dl = some (.lst (intsV ds')) ∧ ds'.length = i + 1 ∧ NN ds' := fun z hz =>
          ⟨rs, ds ++ [z], Same.upd_to s3 hdlH, by rw [upd_ne hne]; exact h3, l3, n3, by rw [upd_same, intsV_snoc], by rw [List.length_append, e3]; rfl, m3.snoc hz⟩
        have hdsl : (intsV ds).length < sizeLine := by rw [intsV_len]; exact small1000 (by omega)
        have mx : ∀ z : Int, -(2 ^ 64) < z % 2147483647 ∧ z % 2147483647 < 2 ^ 64 := fun z => ⟨by omega, by omega⟩
        have mx2 : ∀ z : Int, -(2 ^ 64) < z % 2147483629 ∧ z % 2147483629 < 2 ^ 64 := fun z => ⟨by omega, by omega⟩
        refine ite2 (fun c => ?_) (fun c => ?_)
        · have c' : (0 : Int) < ((intsV ns).length : Nat) := of_decide_eq_true c
          rw [intsV_len] at c'
          have hj : i % ns.length < ns.length := Nat.mod_lt _ (by omega)
          have ej : (0 + (i : Int)) % (((intsV ns).length : Nat) : Int) = ((i % ns.length : Nat) : Int) := by
            rw [intsV_len, Int.zero_add, Int.natCast_emod]
          refine ⟨_, rfl, _, rfl, a, intsV ns, rfl, .inl hS3, _, _, rfl, rfl, (by show (0 : Int) < (((intsV ns).length : Nat) : Int); rw [intsV_len]; exact c'), ?_⟩
          refine ⟨_, rfl, _, rfl, a, _, _, _, rfl, rfl, hS3, at_of (j := i % ns.length) ej (intsV_at hj), .inl ⟨_, rfl, ?_⟩⟩
          have hjr : i % ns.length < rs.length := by rw [l3]; exact hj
          have hr3 := at_of (z := (0 + (i : Int)) % (((intsV ns).length : Nat) : Int)) (j := i % ns.length) ej (intsV_at hjr)
          have hr0 : 0 ≤ rs[i % ns.length] := n3 _ (List.getElem_mem hjr)
          refine ⟨_, rfl, _, _, rfl, rfl, ⟨by decide, by decide, by decide⟩, _, _, rfl, rfl, _, rfl, ?_⟩
          refine ite2 (fun c1 => ?_) (fun c1 => ?_)
          · refine ⟨_, rfl, _, rfl, rl, _, _, _, rfl, rfl, SqL.of h3, hr3, _, _, rfl, rfl, _, rfl, ?_⟩
            refine ite2 (fun c2 => ?_) (fun c2 => ?_)
            · -- append, store, continue
              refine ⟨_, rfl, .inl ⟨rfl, _, SqL.of d3⟩, _, rfl, _, rfl, rl, _, _, _, rfl, rfl, SqL.of h3, hr3, .inl ⟨_, rfl, _, _, rfl, rfl, (by show (0 : Int) < 1000003; decide), dl, _, _, rfl, rfl, d3, hdsl, ?_⟩⟩
              have h4 : upd H3 dl (.lst (intsV ds ++ [V.int (rs[i % ns.length] % 1000003)])) rl = some (.lst (intsV rs)) := by rw [upd_ne hne]; exact h3
              refine ⟨_, rfl, _, rfl, rl, _, _, _, rfl, rfl, SqL.of h4, hr3, .inl ⟨_, rfl, _, _, rfl, rfl, ⟨by decide, by decide⟩, _, rfl, _, rfl, rl, _, _, i % ns.length, rfl, rfl, h4, by rw [ej, intsV_len]; exact ixN_nat hjr, ?_⟩⟩
              refine ⟨rs.set (i % ns.length) (rs[i % ns.length] / 1000003), ds ++ [rs[i % ns.length] % 1000003], _, _, _, _, rfl, ?_, ?_, by rw [List.length_set]; exact l3, n3.set (Int.ediv_nonneg hr0 (by decide)), ?_, ?_, m3.snoc (Int.emod_nonneg _ (by decide))⟩
              · exact Same.upd_to (Same.upd_to s3 hdlH) hrl
              · rw [upd_same]
                exact congrArg (fun l => some (HO.lst l)) intsV_set
              · rw [upd_ne hne.symm, upd_same, intsV_snoc]
              · rw [List.length_append, e3]
                rfl
            · refine ⟨_, rfl, _, _, rfl, rfl, .inr ⟨by decide, by decide⟩, _, rfl, _, _, rfl, rfl, .inr ⟨by decide, by decide⟩, _, _, rfl, rfl, _, _, rfl, rfl, .inl ⟨_, rfl, _, _, rfl, rfl, (by show (0 : Int) < 2147483647; decide), ?_⟩⟩
              refine ⟨_, rfl, _, rfl, _, _, rfl, rfl, .inl (mx _), _, _, rfl, rfl, ⟨by decide, by decide⟩, _, rfl, _, _, rfl, rfl, .inl ⟨_, rfl, _, _, rfl, rfl, (by show (0 : Int) < 2147483629; decide), ?_⟩⟩
              refine ⟨_, rfl, .inl ⟨rfl, _, SqL.of d3⟩, _, rfl, _, rfl, _, _, rfl, rfl, .inl (mx2 _), _, _, rfl, rfl, ⟨by decide, by decide⟩, _, rfl, _, _, rfl, rfl, .inr ⟨by decide, by decide⟩, _, _, rfl, rfl, .inl ⟨_, rfl, _, _, rfl, rfl, (by show (0 : Int) < 2147483629; decide), dl, _, _, rfl, rfl, d3, hdsl, ?_⟩⟩
              obtain ⟨rs', ds', q⟩ := fin _ (Int.emod_nonneg _ (by decide : (2147483629 : Int) ≠ 0))
              exact ⟨rs', ds', _, _, _, _, rfl, q⟩
          · refine iteF ?_
            refine ⟨_, rfl, _, _, rfl, rfl, .inr ⟨by decide, by decide⟩, _, rfl, _, _, rfl, rfl, .inr ⟨by decide, by decide⟩, _, _, rfl, rfl, _, _, rfl, rfl, .inl ⟨_, rfl, _, _, rfl, rfl, (by show (0 : Int) < 2147483647; decide), ?_⟩⟩
            refine ⟨_, rfl, _, rfl, _, _, rfl, rfl, .inl (mx _), _, _, rfl, rfl, ⟨by decide, by decide⟩, _, rfl, _, _, rfl, rfl, .inl ⟨_, rfl, _, _, rfl, rfl, (by show (0 : Int) < 2147483629; decide), ?_⟩⟩
            refine ⟨_, rfl, .inl ⟨rfl, _, SqL.of d3⟩, _, rfl, _, rfl, _, _, rfl, rfl, .inl (mx2 _), _, _, rfl, rfl, ⟨by decide, by decide⟩, _, rfl, _, _, rfl, rfl, .inr ⟨by decide, by decide⟩, _, _, rfl, rfl, .inl ⟨_, rfl, _, _, rfl, rfl, (by show (0 : Int) < 2147483629; decide), dl, _, _, rfl, rfl, d3, hdsl, ?_⟩⟩
            obtain ⟨rs', ds', q⟩ := fin _ (Int.emod_nonneg _ (by decide : (2147483629 : Int) ≠ 0))
            exact ⟨rs', ds', _, _, _, _, rfl, q⟩
        · refine ⟨_, rfl, _, _, rfl, rfl, .inr ⟨by decide, by decide⟩, _, rfl, _, _, rfl, rfl, .inr ⟨by decide, by decide⟩, _, _, rfl, rfl, _, _, rfl, rfl, .inl ⟨_, rfl, _, _, rfl, rfl, (by show (0 : Int) < 2147483647; decide), ?_⟩⟩
          refine ⟨_, rfl, _, rfl, _, _, rfl, rfl, .inl (mx _), _, _, rfl, rfl, ⟨by decide, by decide⟩, _, rfl, _, _, rfl, rfl, .inl ⟨_, rfl, _, _, rfl, rfl, (by show (0 : Int) < 2147483629; decide), ?_⟩⟩
          refine ⟨_, rfl, .inl ⟨rfl, _, SqL.of d3⟩, _, rfl, _, rfl, _, _, rfl, rfl, .inl (mx2 _), _, _, rfl, rfl, ⟨by decide, by decide⟩, _, rfl, _, _, rfl, rfl, .inr ⟨by decide, by decide⟩, _, _, rfl, rfl, .inl ⟨_, rfl, _, _, rfl, rfl, (by show (0 : Int) < 2147483629; decide), dl, _, _, rfl, rfl, d3, hdsl, ?_⟩⟩
          obtain ⟨rs', ds', q⟩ := fin _ (Int.emod_nonneg _ (by decide : (2147483629 : Int) ≠ 0))
          exact ⟨rs', ds', _, _, _, _, rfl, q⟩
      · rintro σ H3 ⟨rs, ds, x2, x5, x6, x7, rfl, s3, h3, l3, n3, d3, e3, m3⟩
        exact ⟨_, rfl, k H3 dl ds s3 d3 m3⟩
end
end K14
/-! ## K14L2 -/
namespace K14
open PySem L2 PySem.Spec PyProof.Rows
section
variable {P : Program} {w : World} {K : PySem.W.Frag} {mg : Str → Option Value} {base : Heap}
/-! ### _law_take -/
def spTake : Sp := fun vs H Q _ => ∃ (p l : Addr) (m : Nat), vs = [.ref p, .int (m : Int)] ∧ 0 < m ∧ Hand H p l ∧ ∀ (j : Nat) (H' : Hp), j < m → But p H H' → Hand H' p l → Q (.int (j : Int)) H'
theorem scTake : FnScope ["_law_hand", "_law_many", "_law_spot", "_law_draws_here"] ["_law_hand", "_law_many"] (defScope lTake) := ⟨rfl, rfl, rfl, by decide +kernel, rfl, by decide +kernel, by decide +kernel⟩
theorem ok_take {f : Addr} {fd : FuncData} (F : Fun K "_law_take" "_law_take" lTake f fd) (T : Tx mg) : FnOk P w K mg base CX0 1 f fd ["_law_hand", "_law_many"] spTake := by
  refine F.ok scTake (fun vs H Q E h => ?_) (fun cdv A outer s H vs Q E hr h => ?_)
  · obtain ⟨p, l, m, rfl, _⟩ := h
    rfl
  · obtain ⟨p, l, m, rfl, hm, hh, k⟩ := h
    have nd := scTake.nd
    refine ⟨_, pss_cons (ps_set (i := 2) nd rfl (.inl rfl) (pe_ix ix_list (pv 0) pe_int (fun _ _ => rfl)))
      (pss_cons (ps_asg (pe_op op_add (pv 2) pe_int) (pg_sub (pv 0) pe_int set_list))
      (pss_cons (ps_set (i := 3) nd rfl (.inl rfl) (pe_ix ix_list (pv 0) pe_int (fun _ _ => rfl)))
      (pss_cons (ps_if (pt_cmpR op_ge (pv 2) (pe_callB call_len_seq (by rfl) T.len PySem.boot_len (pa_cons (pv 3) pa_nil)) (nomark _)) (pss_one (ps_ret pe_int)) pss_nil)
      (pss_one (ps_ret (pe_op op_mod (pe_op op_fdiv (pe_callTy (T := "int") call_int1 (by rfl) T.int boot_int (pa_cons (pe_ix ix_list (pv 3) (pv 2) (fun _ _ => rfl)) pa_nil)) pe_int) (pv 1))))))), ?_⟩
    have hne := hh.ne
    obtain ⟨⟨z, h1⟩, ds, h2, h3⟩ := hh
    refine ⟨_, rfl, p, _, _, .int (z : Int), rfl, rfl, SqL.of h1, rfl, ?_⟩
    refine ⟨_, rfl, _, _, rfl, rfl, _, rfl, p, _, _, 1, rfl, rfl, h1, rfl, ?_⟩
    have e1 : ([V.ref l, V.int (z : Int)].set 1 (V.int ((z : Int) + 1))) = [V.ref l, V.int ((z + 1 : Nat) : Int)] := by
      show [V.ref l, V.int ((z : Int) + 1)] = _
      have : ((z : Int) + 1) = ((z + 1 : Nat) : Int) := by omega
      rw [this]
    have h4 : upd H p (.lst ([V.ref l, V.int (z : Int)].set 1 (V.int ((z : Int) + 1)))) p = some (.lst [.ref l, .int ((z + 1 : Nat) : Int)]) := by rw [upd_same, e1]
    have h5 : upd H p (.lst ([V.ref l, V.int (z : Int)].set 1 (V.int ((z : Int) + 1)))) l = some (.lst (intsV ds)) := by rw [upd_ne hne]; exact h2
    have hB : But p H (upd H p (.lst ([V.ref l, V.int (z : Int)].set 1 (V.int ((z : Int) + 1))))) := fun b o e n => by rw [upd_ne n]; exact e
    refine ⟨_, rfl, p, _, _, .ref l, rfl, rfl, SqL.of h4, rfl, ?_⟩
    refine ⟨_, rfl, _, rfl, l, intsV ds, rfl, .inl (SqL.of h5), _, _, rfl, rfl, _, rfl, ?_⟩
    refine ite2 (fun c => ?_) (fun c => ?_)
    · exact k 0 _ hm hB ⟨⟨_, h4⟩, ds, h5, h3⟩
    · have c' : ¬ (((intsV ds).length : Nat) : Int) ≤ (z : Int) := fun q => c (decide_eq_true q)
      rw [intsV_len] at c'
      have hz : z < ds.length := by omega
      have h0 : 0 ≤ ds[z] := h3 _ (List.getElem_mem hz)
      refine ⟨_, rfl, _, rfl, l, _, _, _, rfl, rfl, SqL.of h5, at_of (j := z) rfl (intsV_at hz), .inl ⟨_, rfl, _, _, rfl, rfl, ⟨by decide, by decide⟩, _, rfl, _, _, rfl, rfl, (by show (0 : Int) < (m : Int); omega), ?_⟩⟩
      have hm0 : (0 : Int) < (m : Int) := by omega
      have r0 : 0 ≤ ds[z] / 7 % (m : Int) := Int.emod_nonneg _ (by omega)
      have r1 : ds[z] / 7 % (m : Int) < (m : Int) := Int.emod_lt_of_pos _ hm0
      have e2 : ds[z] / 7 % (m : Int) = (((ds[z] / 7 % (m : Int)).toNat : Nat) : Int) := by omega
      have q := k (ds[z] / 7 % (m : Int)).toNat _ (by omega) hB ⟨⟨_, h4⟩, ds, h5, h3⟩
      rw [← e2] at q
      exact q

/-! ### _law_needed -/
def spLNeeded : Sp := fun vs H Q _ => ∃ (a : Addr) (d : Dd) (S : Nat), vs = [.ref a, .int (S : Int)] ∧ At H (a, d) ∧ ∀ (H' : Hp) (p : Addr) (L : DL), Same H H' → H' p = some (.lst (rf L)) → Ats H' L → ds L = needD S d → Q (.ref p) H'
theorem scLNeeded : FnScope ["_law_deed", "_law_stages", "_law_way", "_law_k", "_law_s"] ["_law_deed", "_law_stages"] (defScope lNeeded) := ⟨rfl, rfl, rfl, by decide +kernel, rfl, by decide +kernel, by decide +kernel⟩
theorem ok_lneeded {f : Addr} {fd : FuncData} (F : Fun K "_law_needed" "_law_needed" lNeeded f fd) (T : Tx mg) : FnOk P w K mg base CX0 1 f fd ["_law_deed", "_law_stages"] spLNeeded := by
  refine F.ok scLNeeded (fun vs H Q E h => ?_) (fun cdv A outer s H vs Q E hr h => ?_)
  · obtain ⟨a, d, S, rfl, _⟩ := h
    rfl
  · obtain ⟨a, ⟨f, kk, st⟩, S, rfl, ha, k⟩ := h
    have nd := scLNeeded.nd
    refine ⟨_, pss_cons (ps_asg (pv 0) (pg_tup (by rfl) (pgs_cons (pg_name (i := 2) nd rfl (.inl rfl)) (pgs_cons (pg_name (i := 3) nd rfl (.inl rfl)) (pgs_cons (pg_name (i := 4) nd rfl (.inl rfl)) pgs_nil)))))
      (pss_cons (ps_if (pt_cmpR op_eq (pv 2) pe_str (nomark _))
        (pss_one (ps_ret (pe_op op_rep (pe_lst (pa_cons (pe_tup (pa_cons pe_str (pa_cons (pv 3) (pa_cons (pe_op op_sub (pv 4) pe_int) pa_nil)))) pa_nil))
          (pe_callTy (T := "int") call_int1 (by rfl) T.int boot_int (pa_cons (pe_cmpR op_gt (pv 4) pe_int (nomark _)) pa_nil))))) pss_nil)
      (pss_one (ps_ret (pe_op op_cat (pe_op op_rep (pe_lst (pa_cons (pe_tup (pa_cons pe_str (pa_cons (pv 3) (pa_cons (pe_op op_add (pv 4) pe_int) pa_nil)))) pa_nil))
          (pe_callTy (T := "int") call_int1 (by rfl) T.int boot_int (pa_cons (pe_cmpR op_lt (pv 4) (pe_op op_sub (pv 1) pe_int) (nomark _)) pa_nil)))
          (pe_lst (pa_cons (pe_tup (pa_cons pe_str (pa_cons (pv 3) (pa_cons (pv 4) pa_nil)))) pa_nil)))))), ?_⟩
    have one : ∀ v : V, (List.replicate (1 : Int).toNat [v]).flatten = [v] := fun v => rfl
    refine ⟨_, rfl, a, dv ⟨f, kk, st⟩, rfl, SqT.of ha, rfl, _, _, rfl, _, _, rfl, _, _, rfl, rfl, ?_⟩
    cases f with
    | true =>
      refine ⟨_, rfl, rfl, _, rfl, ?_⟩
      rw [decide_eq_true (show V.str (wy true) = V.str "f" from rfl)]
      refine iteT ⟨_, rfl, _, rfl, _, _, rfl, rfl, (by show 3 ≤ sizeLine; decide), fun p hp => ⟨(by show 1 ≤ sizeLine; decide), fun l hl => ?_⟩⟩
      have npl : p ≠ l := ne_of_none upd_same hl
      refine ⟨_, rfl, _, _, rfl, rfl, .inr ⟨_, rfl, l, _, _, rfl, rfl, upd_same, ?_⟩⟩
      by_cases c : (0 : Int) < (st : Int)
      · rw [decide_eq_true c]
        refine ⟨by decide, by decide, (by show 1 * 1 ≤ sizeLine; decide), fun q hq => ?_⟩
        have nlq : l ≠ q := ne_of_none upd_same hq
        have npq : p ≠ q := ne_of_none (o := .tup [.str "f", .int kk, .int ((st : Int) - 1)]) (by rw [upd_ne npl, upd_same]) hq
        have e1 : ((st : Int) - 1) = ((st - 1 : Nat) : Int) := by omega
        refine k _ q [(p, ⟨true, kk, st - 1⟩)] (((Same.upd_new hp).trans (Same.upd_new hl)).trans (Same.upd_new hq)) ?_ ?_ ?_
        · exact upd_same
        · intro z hz
          rw [List.mem_singleton.mp hz]
          show upd _ q _ p = _
          rw [upd_ne npq, upd_ne npl, upd_same]
          show some (HO.tup [.str "f", .int kk, .int ((st : Int) - 1)]) = some (HO.tup [.str (wy true), .int kk, .int ((st - 1 : Nat) : Int)])
          rw [e1]
          rfl
        · show [(⟨true, kk, st - 1⟩ : Dd)] = needD S ⟨true, kk, st⟩
          unfold needD
          simp only
          rw [if_pos (by omega)]
      · rw [decide_eq_false c]
        refine ⟨by decide, by decide, (by show 1 * 0 ≤ sizeLine; decide), fun q hq => ?_⟩
        refine k _ q [] (((Same.upd_new hp).trans (Same.upd_new hl)).trans (Same.upd_new hq)) upd_same Ats.nil ?_
        show ([] : List Dd) = needD S ⟨true, kk, st⟩
        unfold needD
        simp only
        rw [if_neg (by omega)]
    | false =>
      refine ⟨_, rfl, rfl, _, rfl, ?_⟩
      rw [decide_eq_false (show ¬ V.str (wy false) = V.str "f" by decide +kernel)]
      refine iteF ⟨_, rfl, _, rfl, _, _, rfl, rfl, (by show 3 ≤ sizeLine; decide), fun p hp => ⟨(by show 1 ≤ sizeLine; decide), fun l hl => ?_⟩⟩
      have npl : p ≠ l := ne_of_none upd_same hl
      refine ⟨_, rfl, _, rfl, _, _, rfl, rfl, _, _, rfl, rfl, .inr ⟨_, rfl, l, _, _, rfl, rfl, upd_same, ?_⟩⟩
      by_cases c : (st : Int) < (S : Int) - 1
      · rw [decide_eq_true c]
        refine ⟨by decide, by decide, (by show 1 * 1 ≤ sizeLine; decide), fun l2 hl2 => ?_⟩
        refine ⟨_, rfl, _, rfl, (by show 3 ≤ sizeLine; decide), fun p2 hp2 => ⟨(by show 1 ≤ sizeLine; decide), fun l3 hl3 => ?_⟩⟩
        have n1 : l ≠ l2 := ne_of_none upd_same hl2
        have s1 := Same.upd_new (o := HO.lst (List.replicate (1 : Int).toNat [V.ref p]).flatten) hl2
        have s2 := Same.upd_new (o := HO.tup [V.str "f", V.int kk, V.int st]) hp2
        have s3 := Same.upd_new (o := HO.lst [V.ref p2]) hl3
        have hp1 : upd (upd H p (.tup [.str "b", .int kk, .int ((st : Int) + 1)])) l (.lst [.ref p]) p = some (.tup [.str "b", .int kk, .int ((st : Int) + 1)]) := by rw [upd_ne npl, upd_same]
        refine ⟨l2, l3, _, _, rfl, rfl, s3 _ _ (s2 _ _ upd_same), upd_same, (by show 2 ≤ sizeLine; decide), fun q hq => ?_⟩
        have s4 := Same.upd_new (o := HO.lst ([V.ref p] ++ [V.ref p2])) hq
        refine k _ q [(p, ⟨false, kk, st + 1⟩), (p2, ⟨true, kk, st⟩)] ((((((Same.upd_new hp).trans (Same.upd_new hl)).trans s1).trans s2).trans s3).trans s4) upd_same ?_ ?_
        · intro z hz
          rcases List.mem_cons.mp hz with rfl | hz
          · exact s4 _ _ (s3 _ _ (s2 _ _ (s1 _ _ hp1)))
          · rw [List.mem_singleton.mp hz]
            exact s4 _ _ (s3 _ _ upd_same)
        · show [(⟨false, kk, st + 1⟩ : Dd), ⟨true, kk, st⟩] = needD S ⟨false, kk, st⟩
          unfold needD
          simp only
          rw [if_pos (by omega)]
      · rw [decide_eq_false c]
        refine ⟨by decide, by decide, (by show 1 * 0 ≤ sizeLine; decide), fun l2 hl2 => ?_⟩
        refine ⟨_, rfl, _, rfl, (by show 3 ≤ sizeLine; decide), fun p2 hp2 => ⟨(by show 1 ≤ sizeLine; decide), fun l3 hl3 => ?_⟩⟩
        have s1 := Same.upd_new (o := HO.lst (List.replicate (0 : Int).toNat [V.ref p]).flatten) hl2
        have s2 := Same.upd_new (o := HO.tup [V.str "f", V.int kk, V.int st]) hp2
        have s3 := Same.upd_new (o := HO.lst [V.ref p2]) hl3
        refine ⟨l2, l3, _, _, rfl, rfl, s3 _ _ (s2 _ _ upd_same), upd_same, (by show 1 ≤ sizeLine; decide), fun q hq => ?_⟩
        have s4 := Same.upd_new (o := HO.lst ([] ++ [V.ref p2])) hq
        refine k _ q [(p2, ⟨true, kk, st⟩)] ((((((Same.upd_new hp).trans (Same.upd_new hl)).trans s1).trans s2).trans s3).trans s4) upd_same ?_ ?_
        · intro z hz
          rw [List.mem_singleton.mp hz]
          exact s4 _ _ (s3 _ _ upd_same)
        · show [(⟨true, kk, st⟩ : Dd)] = needD S ⟨false, kk, st⟩
          unfold needD
          simp only
          rw [if_neg (by omega)]

/-! ### _law_sizes -/
def spLSizes : Sp := fun vs H Q _ => ∃ (p l : Addr), vs = [.ref p, .int 12] ∧ Hand H p l ∧ ∀ (H' : Hp) (q : Addr) (P S N : Nat), SizesOk P S N → But p H H' → Hand H' p l → H' q = some (.lst [.int (P : Int), .int (S : Int), .int (N : Int)]) → Q (.ref q) H'
theorem scLSizes : FnScope ["_law_hand", "_law_most", "_law_machines", "_law_stages", "_law_portions"] ["_law_hand", "_law_most"] (defScope lSizes) := ⟨rfl, rfl, rfl, by decide +kernel, rfl, by decide +kernel, by decide +kernel⟩
theorem clamp {a b : Nat} (hb : 1 ≤ b) (z : Int) (hz : 0 ≤ z) (e : z = (a : Int)) : ∃ m : Nat, (if (if z < (b : Int) then z else (b : Int)) > 1 then (if z < (b : Int) then z else (b : Int)) else 1) = (m : Int) ∧ 1 ≤ m ∧ m ≤ b := by
  subst e
  by_cases c1 : ((a : Int)) < (b : Int)
  · rw [if_pos c1]
    by_cases c2 : ((a : Int)) > 1
    · rw [if_pos c2]
      exact ⟨a, rfl, by omega, by omega⟩
    · rw [if_neg c2]
      exact ⟨1, rfl, Nat.le_refl _, hb⟩
  · rw [if_neg c1]
    by_cases c2 : ((b : Int)) > 1
    · rw [if_pos c2]
      exact ⟨b, rfl, hb, Nat.le_refl _⟩
    · rw [if_neg c2]
      exact ⟨1, rfl, Nat.le_refl _, hb⟩
theorem ok_lsizes {f : Addr} {fd : FuncData} (F : Fun K "_law_sizes" "_law_sizes" lSizes f fd) (T : Tx mg) (DT : Def P w K mg base "_law_take" 1 ["_law_hand", "_law_many"] spTake) : FnOk P w K mg base CX0 2 f fd ["_law_hand", "_law_most"] spLSizes := by
  refine F.ok scLSizes (fun vs H Q E h => ?_) (fun cdv A outer s H vs Q E hr h => ?_)
  · obtain ⟨p, l, rfl, _⟩ := h
    rfl
  · obtain ⟨p, l, rfl, hh, k⟩ := h
    have nd := scLSizes.nd
    refine ⟨_, pss_cons (ps_set (i := 2) nd rfl (.inl rfl) (pe_op op_add pe_int (pe_def DT hr (by rfl) (pa_cons (pv 0) (pa_cons pe_int pa_nil)))))
      (pss_cons (ps_set (i := 3) nd rfl (.inl rfl) (pe_op op_mul (pv 2) (pe_op op_add pe_int (pe_def DT hr (by rfl) (pa_cons (pv 0) (pa_cons
          (pe_callB (id := "max") (call_max2 rfl) (by rfl) T.max boot_max (pa_cons pe_int (pa_cons (pe_callB (id := "min") (call_min2 rfl) (by rfl) T.min boot_min (pa_cons pe_int (pa_cons (pe_op op_fdiv (pv 1) (pv 2)) pa_nil))) pa_nil))) pa_nil))))))
      (pss_cons (ps_set (i := 4) nd rfl (.inl rfl) (pe_op op_add pe_int (pe_def DT hr (by rfl) (pa_cons (pv 0) (pa_cons
          (pe_callB (id := "max") (call_max2 rfl) (by rfl) T.max boot_max (pa_cons pe_int (pa_cons (pe_callB (id := "min") (call_min2 rfl) (by rfl) T.min boot_min (pa_cons pe_int (pa_cons (pe_op op_fdiv (pv 1) (pv 3)) pa_nil))) pa_nil))) pa_nil)))))
      (pss_one (ps_ret (pe_lst (pa_cons (pv 2) (pa_cons (pe_callB (id := "min") (call_min2 rfl) (by rfl) T.min boot_min (pa_cons (pe_op op_mul (pe_op op_fdiv pe_int (pv 2)) (pv 2)) (pa_cons (pv 3) pa_nil))) (pa_cons (pv 4) pa_nil)))))))), ?_⟩
    refine ⟨_, rfl, p, l, 4, rfl, by decide, hh, fun j1 H1 hj1 b1 hh1 => ⟨_, _, rfl, rfl, ?_⟩⟩
    obtain ⟨M, eM⟩ : ∃ M : Nat, (1 : Int) + (j1 : Int) = (M : Int) := ⟨1 + j1, by omega⟩
    have hM1 : 1 ≤ M := by omega
    have hM4 : M ≤ 4 := by omega
    show tSeq _ _ _ ((L2.start _ _).set 2 (some (.int ((1 : Int) + (j1 : Int))))) H1
    rw [eM]
    have hq3 : (3 : Int) ≤ (12 : Int) / (M : Int) := by
      have : M = 1 ∨ M = 2 ∨ M = 3 ∨ M = 4 := by omega
      rcases this with rfl | rfl | rfl | rfl <;> decide
    have e3 : (if (if (12 : Int) / (M : Int) < 3 then (12 : Int) / (M : Int) else 3) > 1 then (if (12 : Int) / (M : Int) < 3 then (12 : Int) / (M : Int) else 3) else 1) = ((3 : Nat) : Int) := by
      have hn : ¬ (12 : Int) / (M : Int) < 3 := by omega
      rw [if_neg hn]
      rfl
    refine ⟨_, rfl, _, rfl, _, rfl, _, rfl, _, _, rfl, rfl, ⟨by omega, by omega⟩, _, _, rfl, _, _, rfl, p, l, 3, congrArg (fun z => [V.ref p, V.int z]) e3, by decide, hh1, fun j2 H2 hj2 b2 hh2 => ⟨_, _, rfl, rfl, _, _, rfl, rfl, .inl ⟨by omega, by omega⟩, ?_⟩⟩
    obtain ⟨S, eS, hS1, hS2, hSm⟩ : ∃ S : Nat, (M : Int) * ((1 : Int) + (j2 : Int)) = (S : Int) ∧ M ≤ S ∧ S ≤ 12 ∧ S % M = 0 := by
      refine ⟨M * (1 + j2), by rw [Int.natCast_mul]; rfl, Nat.le_mul_of_pos_right _ (by omega), ?_, Nat.mul_mod_right _ _⟩
      have : M * (1 + j2) ≤ 4 * 3 := Nat.mul_le_mul hM4 (by omega)
      exact this
    show tSeq _ _ _ (List.set _ 3 (some (.int ((M : Int) * ((1 : Int) + (j2 : Int)))))) H2
    rw [eS]
    have hd0 : (0 : Int) ≤ (12 : Int) / (S : Int) := Int.ediv_nonneg (by decide) (by omega)
    obtain ⟨B, eB, hB1, hB8⟩ := clamp (a := ((12 : Int) / (S : Int)).toNat) (b := 8) (by decide) ((12 : Int) / (S : Int)) hd0 (by omega)
    refine ⟨_, rfl, _, rfl, _, rfl, _, _, rfl, rfl, ⟨by omega, by omega⟩, _, _, rfl, _, _, rfl, p, l, B, congrArg (fun z => [V.ref p, V.int z]) eB, by omega, hh2, fun j3 H3 hj3 b3 hh3 => ⟨_, _, rfl, rfl, ?_⟩⟩
    have eN : (1 : Int) + (j3 : Int) = ((1 + j3 : Nat) : Int) := by omega
    have e12 : (12 : Int) / (M : Int) * (M : Int) = 12 := by
      have : M = 1 ∨ M = 2 ∨ M = 3 ∨ M = 4 := by omega
      rcases this with rfl | rfl | rfl | rfl <;> decide
    have emin : (if (S : Int) < (12 : Int) / (M : Int) * (M : Int) then (S : Int) else (12 : Int) / (M : Int) * (M : Int)) = (S : Int) := by
      rw [e12]
      split <;> omega
    refine ⟨_, rfl, _, rfl, _, _, rfl, rfl, ⟨by omega, by omega⟩, _, rfl, _, _, rfl, rfl, .inr ⟨by omega, by omega⟩, _, rfl, _, _, rfl, _, rfl, (by show 3 ≤ sizeLine; decide), fun q hq => ?_⟩
    have hb : But p H H3 := (b1.trans b2).trans b3
    refine k _ q M S (1 + j3) ⟨hM1, hM4, hS1, hS2, hSm, by omega, by omega⟩ (hb.same (Same.upd_new hq)) (hh3.same (Same.upd_new hq)) ?_
    rw [upd_same]
    show some (HO.lst [V.int (M : Int), V.int (if (S : Int) < (12 : Int) / (M : Int) * (M : Int) then (S : Int) else (12 : Int) / (M : Int) * (M : Int)), V.int ((1 : Int) + (j3 : Int))]) = _
    rw [emin, eN]
end
end K14
/-! ## K14L3 -/
namespace K14
open PySem L2 PySem.Spec PyProof.Rows
theorem dv_deedAt_f {S k r : Nat} (h : r < S) : dv (deedAt S k r) = [.str "f", .int (k : Int), .int (r : Int)] := by
  unfold deedAt
  rw [if_pos h]
  rfl
theorem dv_deedAt_b {S k r : Nat} (h : ¬ r < S) (h2 : r < 2 * S) : dv (deedAt S k r) = [.str "b", .int (k : Int), .int (2 * (S : Int) - 1 - (r : Int))] := by
  unfold deedAt
  rw [if_neg h]
  show [V.str (wy false), V.int (k : Int), V.int ((2 * S - 1 - r : Nat) : Int)] = _
  have e : ((2 * S - 1 - r : Nat) : Int) = 2 * (S : Int) - 1 - (r : Int) := by omega
  rw [e]
  rfl
theorem natsV_snoc {l : List Nat} {z : Int} {n : Nat} (h : z = (n : Int)) : natsV l ++ [V.int z] = natsV (l ++ [n]) := by
  unfold natsV
  rw [List.map_append, h]
  rfl
theorem of_natsV {l : List Nat} {i : Nat} {v : V} (h : (natsV l)[i]? = some v) : ∃ z, l[i]? = some z ∧ v = .int (z : Int) := by
  unfold natsV at h
  rw [List.getElem?_map] at h
  cases e : l[i]? with
  | none => rw [e] at h; cases h
  | some p => rw [e] at h; exact ⟨p, rfl, (Option.some.inj h).symm⟩
theorem natsV_get {l : List Nat} {i z : Nat} (h : l[i]? = some z) : (natsV l)[i]? = some (.int (z : Int)) := by
  unfold natsV
  rw [List.getElem?_map, h]
  rfl

section
variable {P : Program} {w : World} {K : PySem.W.Frag} {mg : Str → Option Value} {base : Heap}
/-! ### _law_drawn_order -/
def spDrawn : Sp := fun vs H Q _ => ∃ (p l : Addr) (P S N : Nat), vs = [.ref p, .int (S : Int), .int (N : Int)] ∧ SizesOk P S N ∧ Hand H p l ∧
  ∀ (H' : Hp) (q : Addr) (L : DL), But p H H' → Hand H' p l → q ≠ p → H' q = some (.lst (rf L)) → Ats H' L → Lw P S N (ds L) → Q (.ref q) H'
theorem scDrawn : FnScope ["_law_hand", "_law_stages", "_law_portions", "_law_order", "_law_reached", "_law_step", "_law_k", "_law_left"] ["_law_hand", "_law_stages", "_law_portions"] (defScope lDrawn) := ⟨rfl, rfl, rfl, by decide +kernel, rfl, by decide +kernel, by decide +kernel⟩
theorem ok_drawn {f : Addr} {fd : FuncData} (F : Fun K "_law_drawn_order" "_law_drawn_order" lDrawn f fd) (T : Tx mg) (DT : Def P w K mg base "_law_take" 1 ["_law_hand", "_law_many"] spTake) :
    FnOk P w K mg base CX0 2 f fd ["_law_hand", "_law_stages", "_law_portions"] spDrawn := by
  refine F.ok scDrawn (fun vs H Q E h => ?_) (fun cdv A outer s H vs Q E hr h => ?_)
  · obtain ⟨p, l, P, S, N, rfl, _⟩ := h
    rfl
  · obtain ⟨p, l, P, S, N, rfl, Z, hh, k⟩ := h
    have nd := scDrawn.nd
    refine ⟨_, pss_cons (ps_set (i := 3) nd rfl (.inl rfl) (pe_lst pa_nil))
      (pss_cons (ps_set (i := 4) nd rfl (.inr rfl) (pe_op op_rep (pe_lst (pa_cons pe_int pa_nil)) (pv 2)))
      (pss_cons (ps_for PassesOwn.never rfl (pi_range1 (by rfl) T.range (pa_cons (pe_op op_mul (pe_op op_mul pe_int (pv 1)) (pv 2)) pa_nil)) (pg_name (i := 5) nd rfl (.inl rfl))
        (pss_cons (ps_setLc (i := 7) (own := [("_law_k", 6)]) (g := gName 6) rfl nd rfl rfl (sw_true rfl rfl rfl (by decide +kernel)) (pi_range1 (by rfl) T.range (pa_cons (pv 2) pa_nil))
          (blkOk_by (N := ["_law_hand", "_law_stages", "_law_portions", "_law_order", "_law_reached", "_law_step", "_law_k", "_law_left"]) (sc := defScope lDrawn) (by decide +kernel))
          (fun _ _ _ _ _ => pg_name (i := 6) nd rfl (.inl rfl))
          (fun _ _ _ _ _ => pts_one (pt_cmpR op_lt (pe_ix (ixL_at (K := K) rfl) (pv 4) (pv 6) (fun _ _ => rfl)) (pe_op op_mul pe_int (pv 1)) (nomark _)))
          (fun _ _ _ _ _ => pv 6))
        (pss_cons (ps_set (i := 6) nd rfl (.inl rfl) (pe_ix ix_list (pv 7) (pe_def DT hr (by rfl) (pa_cons (pv 0) (pa_cons (pe_callB call_len_seq (by rfl) T.len PySem.boot_len (pa_cons (pv 7) pa_nil)) pa_nil))) (fun _ _ => rfl)))
        (pss_cons (ps_if (pt_cmpR op_lt (pe_ix ix_list (pv 4) (pv 6) (fun _ _ => rfl)) (pv 1) (nomark _))
          (pss_one (ps_expr (pe_bm PySem.F.plainAttrs_list PySem.F.slot_list_append PySem.F.type_list_append mt_append (pv 3) (pa_cons (pe_tup (pa_cons pe_str (pa_cons (pv 6) (pa_cons (pe_ix ix_list (pv 4) (pv 6) (fun _ _ => rfl)) pa_nil)))) pa_nil))))
          (pss_one (ps_expr (pe_bm PySem.F.plainAttrs_list PySem.F.slot_list_append PySem.F.type_list_append mt_append (pv 3) (pa_cons (pe_tup (pa_cons pe_str (pa_cons (pv 6) (pa_cons
            (pe_op op_sub (pe_op op_sub (pe_op op_mul pe_int (pv 1)) pe_int) (pe_ix ix_list (pv 4) (pv 6) (fun _ _ => rfl))) pa_nil)))) pa_nil)))))
        (pss_one (ps_asg (pe_op op_add (pe_ix ix_list (pv 4) (pv 6) (fun _ _ => rfl)) pe_int) (pg_sub (pv 4) (pv 6) set_list)))))))
      (pss_one (ps_ret (pv 3))))), ?_⟩
    have z1 := Z.s12
    have z2 := Z.k8
    have z3 := Z.k1
    have hSN : S * N ≤ 12 * 8 := Nat.mul_le_mul z1 z2
    obtain ⟨op, hop⟩ := hh.there
    have dl0 : ∃ o, H l = some o := let ⟨ds, h2, _⟩ := hh.dr; ⟨_, h2⟩
    -- _law_order = []; _law_reached = [0] * _law_portions
    refine ⟨Nat.zero_le _, fun od hod => ⟨(by show 1 ≤ sizeLine; decide), fun t ht => ⟨_, rfl, t, _, _, rfl, rfl, upd_same, by omega, by omega, ?_, fun rc hrc => ?_⟩⟩⟩
    · show 1 * ((N : Int)).toNat ≤ sizeLine
      rw [Int.toNat_natCast, Nat.one_mul]
      exact Nat.le_of_lt (small1000 (by omega))
    have erep : (List.replicate ((N : Int)).toNat [V.int 0]).flatten = natsV (List.replicate N 0) := by
      rw [Int.toNat_natCast, natsV_zeros]
      have : ∀ n : Nat, (List.replicate n [V.int 0]).flatten = List.replicate n (V.int 0) := fun n => by
        induction n with
        | zero => rfl
        | succ n ih => rw [List.replicate_succ, List.flatten_cons, ih]; rfl
      exact this N
    rw [erep]
    have s1 : Same H (upd H od (.lst [])) := Same.upd_new hod
    have s2 : Same (upd H od (.lst [])) (upd (upd H od (.lst [])) t (.lst [.int 0])) := Same.upd_new ht
    have s3 : Same (upd (upd H od (.lst [])) t (.lst [.int 0])) (upd (upd (upd H od (.lst [])) t (.lst [.int 0])) rc (.lst (natsV (List.replicate N 0)))) := Same.upd_new hrc
    have sA := (s1.trans s2).trans s3
    have hrcH : H rc = none := (s1.trans s2).free hrc
    have n_or : od ≠ rc := ne_of_none (s2 _ _ upd_same) hrc
    have n_po : p ≠ od := ne_of_none hop hod
    have n_pr : p ≠ rc := ne_of_none hop hrcH
    obtain ⟨ol, hol⟩ := dl0
    have n_lo : l ≠ od := ne_of_none hol hod
    have n_lr : l ≠ rc := ne_of_none hol hrcH
    -- for _law_step in range(2 * stages * portions)
    have e2SN : (2 * (S : Int) * (N : Int)) = ((2 * S * N : Nat) : Int) := by rw [Int.natCast_mul, Int.natCast_mul]; rfl
    have h192 : 2 * S * N ≤ 192 := by
      rw [Nat.mul_assoc]
      omega
    refine ⟨_, rfl, _, _, rfl, rfl, .inl ⟨by decide, by decide⟩, _, rfl, _, _, rfl, rfl, .inr ⟨by omega, by omega⟩, 2 * (S : Int) * (N : Int), rfl, by rw [e2SN]; omega, by rw [e2SN]; omega, for_range (lo := 0) (n := (2 * (S : Int) * (N : Int)).toNat)
      (fun i σ H2 => ∃ (rs : List Nat) (L : DL) (x5 x6 x7 : Option V), σ = [some (.ref p), some (.int S), some (.int N), some (.ref od), some (.ref rc), x5, x6, x7] ∧ But p H H2 ∧ Hand H2 p l ∧ H2 od = some (.lst (rf L)) ∧ Ats H2 L ∧
        H2 rc = some (.lst (natsV rs)) ∧ Dr S N rs (ds L) ∧ L.length = i)
      ⟨List.replicate N 0, [], none, none, none, rfl, But.of sA, hh.same sA, s3 _ _ (s2 _ _ upd_same), Ats.nil, upd_same, dr_start, rfl⟩ ?_ ?_⟩
    · rintro i σ H2 hi ⟨rs, L, x5, x6, x7, rfl, b2, hh2, ho2, hA2, hr2, D2, l2⟩
      rw [e2SN, Int.toNat_natCast] at hi
      -- _law_left
      refine ⟨_, rfl, (N : Int), rfl, by omega, by omega, fun D hD => lc_range (lo := 0) (n := ((N : Int)).toNat)
        (fun j H3 => ∃ ks : List Nat, Same H2 H3 ∧ H3 D = some (.lst (natsV ks)) ∧ (∀ k ∈ ks, k < N ∧ rs.getD k 0 < 2 * S) ∧ (∀ k, k < j → rs.getD k 0 < 2 * S → k ∈ ks) ∧ ks.length ≤ j)
        ⟨[], Same.upd_new hD, upd_same, fun k hk => by simp at hk, fun k hk => absurd hk (Nat.not_lt_zero _), Nat.le_refl _⟩ ?_ ?_⟩
      · rintro j H3 hj ⟨ks, s4, h4, h5, h6, h7⟩
        rw [Int.toNat_natCast] at hj
        have hjr : j < rs.length := by rw [D2.len]; exact hj
        refine ⟨rfl, _, rfl, _, rfl, rc, natsV rs, _, _, rfl, rfl, SqL.of (s4 _ _ hr2), at_of (j := j) (by omega) (natsV_at hjr), _, rfl, _, _, rfl, rfl, .inl ⟨by decide, by decide⟩, _, _, rfl, rfl, _, rfl, ?_⟩
        refine ite2 (fun c => ?_) (fun c => ?_)
        · have c' : ((rs.getD j 0 : Nat) : Int) < 2 * (S : Int) := of_decide_eq_true c
          refine ⟨_, rfl, _, h4, by rw [natsV_len]; exact small1000 (by omega), ks ++ [j], Same.upd_to s4 hD, ?_, ?_, ?_, ?_⟩
          · rw [upd_same, natsV_snoc (n := j) (by omega)]
          · intro k hk
            rcases List.mem_append.mp hk with q | q
            · exact h5 k q
            · rw [List.mem_singleton.mp q]
              exact ⟨hj, by omega⟩
          · intro k hk hlt
            rcases Nat.lt_or_ge k j with q | q
            · exact List.mem_append.mpr (.inl (h6 k q hlt))
            · have : k = j := by omega
              rw [this]
              exact List.mem_append.mpr (.inr (List.mem_singleton.mpr rfl))
          · rw [List.length_append]
            show ks.length + 1 ≤ j + 1
            omega
        · have c' : ¬ ((rs.getD j 0 : Nat) : Int) < 2 * (S : Int) := fun q => c (decide_eq_true q)
          refine ⟨ks, s4, h4, h5, fun k hk hlt => ?_, Nat.le_succ_of_le h7⟩
          rcases Nat.lt_or_ge k j with q | q
          · exact h6 k q hlt
          · have : k = j := by omega
            subst this
            omega
      · rintro H3 ⟨ks, s4, h4, h5, h6, h7⟩
        rw [Int.toNat_natCast] at h6 h7
        obtain ⟨k0, hk0, hlt0⟩ := dr_left D2 (by rw [ds_len, l2]; exact hi)
        have hkm := h6 k0 hk0 hlt0
        have hpos : 0 < ks.length := List.length_pos_of_mem hkm
        have hh3 := hh2.same s4
        have n_pD : p ≠ D := by
          obtain ⟨o, ho⟩ := hh2.there
          exact ne_of_none ho hD
        -- _law_k = _law_left[take(hand, len(left))]
        refine ⟨_, rfl, _, rfl, _, rfl, D, _, rfl, .inl (SqL.of h4), p, l, ks.length, by rw [natsV_len]; rfl, hpos, hh3, fun j4 H4 hj4 b4 hh4 => ?_⟩
        have hD4 := b4 _ _ h4 n_pD.symm
        obtain ⟨kk, hkk⟩ : ∃ kk, ks[j4]? = some kk := ⟨ks[j4], List.getElem?_eq_getElem hj4⟩
        obtain ⟨hkN, hkr⟩ := h5 kk (List.mem_of_getElem? hkk)
        have ho4 : H4 od = some (.lst (rf L)) := b4 _ _ (s4 _ _ ho2) n_po.symm
        have hr4 : H4 rc = some (.lst (natsV rs)) := b4 _ _ (s4 _ _ hr2) n_pr.symm
        have hA4 : Ats H4 L := fun z hz => by
          have q := s4 _ _ (hA2 z hz)
          refine b4 _ _ q ?_
          obtain ⟨⟨zz, hz1⟩, _⟩ := hh3
          exact ne_of q hz1 (by intro c; cases c)
        have b5 : But p H H4 := (b2.same s4).trans b4
        have hkrs : kk < rs.length := by rw [D2.len]; exact hkN
        have hat4 := at_of (z := (kk : Int)) (j := kk) rfl (natsV_at hkrs)
        have hLlen : (rf L).length < sizeLine := by rw [rf_len]; exact small1000 (by omega)
        refine ⟨D, _, _, _, rfl, rfl, SqL.of hD4, at_of (j := j4) rfl (natsV_get hkk), ?_⟩
        have D5 := dr_step D2 hkN hkr
        -- what a turn leaves
        have fin : ∀ (q : Addr) (xs : List V), H4 q = none → xs = dv (deedAt S kk (rs.getD kk 0)) →
            ∃ (rs' : List Nat) (L' : DL), But p H (upd (upd (upd H4 q (.tup xs)) od (.lst (rf L ++ [.ref q]))) rc (.lst ((natsV rs).set kk (.int ((rs.getD kk 0 : Nat) + 1))))) ∧
              Hand (upd (upd (upd H4 q (.tup xs)) od (.lst (rf L ++ [.ref q]))) rc (.lst ((natsV rs).set kk (.int ((rs.getD kk 0 : Nat) + 1))))) p l ∧
              upd (upd (upd H4 q (.tup xs)) od (.lst (rf L ++ [.ref q]))) rc (.lst ((natsV rs).set kk (.int ((rs.getD kk 0 : Nat) + 1)))) od = some (.lst (rf L')) ∧
              Ats (upd (upd (upd H4 q (.tup xs)) od (.lst (rf L ++ [.ref q]))) rc (.lst ((natsV rs).set kk (.int ((rs.getD kk 0 : Nat) + 1))))) L' ∧
              upd (upd (upd H4 q (.tup xs)) od (.lst (rf L ++ [.ref q]))) rc (.lst ((natsV rs).set kk (.int ((rs.getD kk 0 : Nat) + 1)))) rc = some (.lst (natsV rs')) ∧ Dr S N rs' (ds L') ∧ L'.length = i + 1 := by
          intro q xs hq exs
          subst exs
          have hn : ∀ b u, H b = some u → b ≠ od ∧ b ≠ rc := fun b u e => ⟨ne_of_none e hod, ne_of_none e hrcH⟩
          refine ⟨rs.set kk (rs.getD kk 0 + 1), L ++ [(q, deedAt S kk (rs.getD kk 0))], fun b u e nb => ?_, ?_, ?_, ?_, ?_, by rw [ds_app]; exact D5, by rw [List.length_append, l2]; rfl⟩
          · rw [upd_ne (hn b u e).2, upd_ne (hn b u e).1]
            exact Same.upd_new hq _ _ (b5 b u e nb)
          · obtain ⟨⟨zz, g1⟩, dd, g2, g3⟩ := hh4
            refine ⟨⟨zz, ?_⟩, dd, ?_, g3⟩
            · rw [upd_ne n_pr, upd_ne n_po]
              exact Same.upd_new hq _ _ g1
            · rw [upd_ne n_lr, upd_ne n_lo]
              exact Same.upd_new hq _ _ g2
          · rw [upd_ne n_or, upd_same, rf_app]
            rfl
          · have hA5 : Ats (upd H4 q (.tup (dv (deedAt S kk (rs.getD kk 0))))) (L ++ [(q, deedAt S kk (rs.getD kk 0))]) := Ats.snoc (hA4.same (Same.upd_new hq)) upd_same
            intro z hz
            have e := hA5 z hz
            have e1 : z.1 ≠ od := ne_of e (Same.upd_new hq _ _ ho4) (by intro c; cases c)
            have e2 : z.1 ≠ rc := ne_of e (Same.upd_new hq _ _ hr4) (by intro c; cases c)
            show upd _ rc _ z.1 = _
            rw [upd_ne e2, upd_ne e1]
            exact e
          · rw [upd_same, natsV_set (n := rs.getD kk 0 + 1) (by omega)]
        -- if reached[k] < stages
        refine ⟨_, rfl, _, rfl, rc, _, _, _, rfl, rfl, SqL.of hr4, hat4, _, rfl, _, _, rfl, rfl, _, rfl, ?_⟩
        refine ite2 (fun c => ?_) (fun c => ?_)
        · have c' : ((rs.getD kk 0 : Nat) : Int) < (S : Int) := of_decide_eq_true c
          have cN : rs.getD kk 0 < S := by omega
          refine ⟨_, rfl, .inl ⟨rfl, _, SqL.of ho4⟩, _, rfl, _, rfl, _, rfl, rc, _, _, _, rfl, rfl, SqL.of hr4, hat4, (by show 3 ≤ sizeLine; decide), fun q hq => ?_⟩
          have n_oq : od ≠ q := ne_of_none ho4 hq
          have n_rq : rc ≠ q := ne_of_none hr4 hq
          refine ⟨od, _, _, rfl, rfl, Same.upd_new hq _ _ ho4, hLlen, ?_⟩
          have hr6 : upd (upd H4 q (.tup [.str "f", .int (kk : Int), .int ((rs.getD kk 0 : Nat) : Int)])) od (.lst (rf L ++ [.ref q])) rc = some (.lst (natsV rs)) := by
            rw [upd_ne n_or.symm]
            exact Same.upd_new hq _ _ hr4
          refine ⟨_, rfl, _, rfl, rc, _, _, _, rfl, rfl, SqL.of hr6, hat4, _, _, rfl, rfl, _, rfl, _, rfl, rc, _, _, kk, rfl, rfl, hr6, by rw [natsV_len]; exact ixN_nat hkrs, ?_⟩
          obtain ⟨rs', L', f⟩ := fin q _ hq (dv_deedAt_f cN).symm
          exact ⟨rs', L', _, _, _, rfl, f⟩
        · have c' : ¬ ((rs.getD kk 0 : Nat) : Int) < (S : Int) := fun q => c (decide_eq_true q)
          have cN : ¬ rs.getD kk 0 < S := by omega
          refine ⟨_, rfl, .inl ⟨rfl, _, SqL.of ho4⟩, _, rfl, _, rfl, _, _, rfl, rfl, .inl ⟨by decide, by decide⟩, _, _, rfl, rfl, _, rfl, _, rfl, rc, _, _, _, rfl, rfl, SqL.of hr4, hat4, _, _, rfl, rfl, (by show 3 ≤ sizeLine; decide), fun q hq => ?_⟩
          refine ⟨od, _, _, rfl, rfl, Same.upd_new hq _ _ ho4, hLlen, ?_⟩
          have hr6 : upd (upd H4 q (.tup [.str "b", .int (kk : Int), .int (2 * (S : Int) - 1 - ((rs.getD kk 0 : Nat) : Int))])) od (.lst (rf L ++ [.ref q])) rc = some (.lst (natsV rs)) := by
            rw [upd_ne n_or.symm]
            exact Same.upd_new hq _ _ hr4
          refine ⟨_, rfl, _, rfl, rc, _, _, _, rfl, rfl, SqL.of hr6, hat4, _, _, rfl, rfl, _, rfl, _, rfl, rc, _, _, kk, rfl, rfl, hr6, by rw [natsV_len]; exact ixN_nat hkrs, ?_⟩
          obtain ⟨rs', L', f⟩ := fin q _ hq (dv_deedAt_b cN hkr).symm
          exact ⟨rs', L', _, _, _, rfl, f⟩
    · rintro σ H2 ⟨rs, L, x5, x6, x7, rfl, b2, hh2, ho2, hA2, hr2, D2, l2⟩
      rw [e2SN, Int.toNat_natCast] at l2
      obtain ⟨O, hk⟩ := dr_ord D2
      exact ⟨_, rfl, k H2 od L b2 hh2 n_po.symm ho2 hA2 ⟨Z, O, hk, by rw [ds_len]; exact l2⟩⟩

/-! ### _law_rows -/
def spLRows : Sp := fun vs H Q _ => ∃ (ol : Addr) (L : DL) (P S N : Nat), vs = [.ref ol, .int (P : Int)] ∧ H ol = some (.lst (rf L)) ∧ Ats H L ∧ Lw P S N (ds L) ∧
  ∀ (H' : Hp) (r : Addr) (LL : RL), Same H H' → RowsAt H' r LL → rowsD LL = rowsOf P (ds L) → Q (.ref r) H'
theorem scLRows : FnScope ["_law_order", "_law_machines", "_law_rows_here", "_law_machine", "_law_deed"] ["_law_order", "_law_machines"] (defScope lRows) := ⟨rfl, rfl, rfl, by decide +kernel, rfl, by decide +kernel, by decide +kernel⟩
theorem ds_filter {P m : Nat} : ∀ L : DL, ds (L.filter fun p => onM P m p.2) = (ds L).filter (onM P m)
  | [] => rfl
  | p :: r => by
    have ih := ds_filter (P := P) (m := m) r
    unfold ds at ih ⊢
    rw [List.filter_cons, List.map_cons, List.filter_cons]
    split
    · rw [List.map_cons, ih]
    · exact ih
theorem ok_lrows {f : Addr} {fd : FuncData} (F : Fun K "_law_rows" "_law_rows" lRows f fd) (T : Tx mg) : FnOk P w K mg base CX0 1 f fd ["_law_order", "_law_machines"] spLRows := by
  refine F.ok scLRows (fun vs H Q E h => ?_) (fun cdv A outer s H vs Q E hr h => ?_)
  · obtain ⟨ol, L, P, S, N, rfl, _⟩ := h
    rfl
  · obtain ⟨ol, L, P, S, N, rfl, hL, hA, W, k⟩ := h
    have nd := scLRows.nd
    refine ⟨_, pss_cons (ps_set (i := 2) nd rfl (.inl rfl) (pe_lst pa_nil))
      (pss_cons (ps_for PassesOwn.never rfl (pi_range1 (by rfl) T.range (pa_cons (pv 1) pa_nil)) (pg_name (i := 3) nd rfl (.inr rfl))
        (pss_one (ps_expr (pe_bm PySem.F.plainAttrs_list PySem.F.slot_list_append PySem.F.type_list_append mt_append (pv 2) (pa_cons (pe_callTy (T := "tuple") call_tuple_of (by rfl) T.tuple boot_tuple (pa_cons
          (pe_lc (own := [("_law_deed", 4)]) (g := gName 4) rfl nd (pi_list (pv 0)) (blkOk_by (N := ["_law_order", "_law_machines", "_law_rows_here", "_law_machine", "_law_deed"]) (sc := defScope lRows) (by decide +kernel))
            (fun _ _ _ _ _ => pg_name (i := 4) nd rfl (.inl rfl))
            (fun _ _ _ _ _ => pts_one (pt_cmpR op_eq (pe_op op_mod (pe_callTy (T := "int") call_int1 (by rfl) T.int boot_int (pa_cons (pe_ix (ixT_at (K := K) rfl) (pv 4) pe_int (fun _ _ => rfl)) pa_nil)) (pv 1)) (pv 3) (nomark _)))
            (fun _ _ _ _ _ => pv 4)) pa_nil)) pa_nil)))))
      (pss_one (ps_ret (pe_callTy (T := "tuple") call_tuple_of (by rfl) T.tuple boot_tuple (pa_cons (pv 2) pa_nil))))), ?_⟩
    have h4 := W.sz.p4
    have hp0 := W.p0
    have hL192 : L.length ≤ 192 := by
      have := W.small
      rw [ds_len] at this
      exact this
    refine ⟨Nat.zero_le _, fun rl hrl => ?_⟩
    refine ⟨_, rfl, (P : Int), rfl, by omega, by omega, for_range (lo := 0) (n := ((P : Int)).toNat)
      (fun i σ H2 => ∃ (LL : RL) (x3 : Option V), σ = [some (.ref ol), some (.int P), some (.ref rl), x3, none] ∧ Same H H2 ∧ H2 rl = some (.lst (rowsV LL)) ∧ LL.map (·.2) = (List.range i).map (fun m => L.filter fun p => onM P m p.2) ∧
        ∀ q ∈ LL, H2 q.1 = some (.tup (rf q.2))) ⟨[], none, rfl, Same.upd_new hrl, upd_same, rfl, fun q hq => by simp at hq⟩ ?_ ?_⟩
    · rintro i σ H2 hi ⟨LL, x3, rfl, s2, h2, e2, t2⟩
      rw [Int.toNat_natCast] at hi
      have hLL : LL.length = i := by
        have := congrArg List.length e2
        rw [List.length_map, List.length_map, List.length_range] at this
        exact this
      refine ⟨_, rfl, .inl ⟨rfl, _, SqL.of h2⟩, _, rfl, ol, rfl, ⟨_, SqL.of (s2 _ _ hL)⟩, fun D hD => lc_list (K := K) (a := ol) (xs := rf L)
        (fun j H3 => Same H2 H3 ∧ H3 D = some (.lst (rf ((L.take j).filter fun p => onM P i p.2)))) ⟨Same.upd_new hD, upd_same⟩ (fun j H3 _ h3 => SqL.of (h3.1 _ _ (s2 _ _ hL))) ?_ ?_⟩
      · rintro j x H3 hx ⟨s3, h3⟩
        obtain ⟨d, hd, rfl⟩ := of_rf hx
        have hA3 : H3 d.1 = some (.tup (dv d.2)) := s3 _ _ (s2 _ _ (hA.get hd))
        have hsp : ((d.2.s : Int) % (P : Int)) = ((d.2.s % P : Nat) : Int) := (Int.natCast_emod _ _).symm
        have htk : (L.take (j + 1)).filter (fun p => onM P i p.2) = (L.take j).filter (fun p => onM P i p.2) ++ (if onM P i d.2 = true then [d] else []) := by
          rw [List.take_add_one, hd, List.filter_append]
          show _ ++ [d].filter _ = _
          rw [List.filter_cons]
          rfl
        refine ⟨rfl, _, rfl, d.1, dv d.2, 2, .int d.2.s, rfl, rfl, SqT.of hA3, rfl, .inl ⟨_, rfl, _, rfl, _, _, rfl, rfl, (by show (0 : Int) < (P : Int); omega), _, rfl, rfl, _, rfl, ?_⟩⟩
        refine ite2 (fun c => ?_) (fun c => ?_)
        · have c' : V.int ((d.2.s : Int) % (P : Int)) = V.int (0 + (i : Int)) := of_decide_eq_true c
          have c2 := V.int.inj c'
          rw [hsp] at c2
          have hon : onM P i d.2 = true := decide_eq_true (by omega)
          refine ⟨_, rfl, _, h3, ?_, Same.upd_to s3 hD, ?_⟩
          · rw [rf_len]
            have := List.length_filter_le (fun p : Addr × Dd => onM P i p.2) (L.take j)
            rw [List.length_take] at this
            exact small1000 (by omega)
          · rw [upd_same, htk, if_pos hon, rf_app]
            rfl
        · have hon : ¬ onM P i d.2 = true := fun q => c (decide_eq_true (congrArg V.int (by have := of_decide_eq_true q; rw [hsp]; omega)))
          refine ⟨s3, ?_⟩
          rw [htk, if_neg hon, List.append_nil]
          exact h3
      · rintro H3 ⟨s3, h3⟩
        rw [rf_len, List.take_length] at h3
        refine ⟨D, _, rfl, .inl ⟨SqL.of h3, fun q hq => ?_⟩⟩
        have s4 : Same H3 (upd H3 q (.tup (rf (L.filter fun p => onM P i p.2)))) := Same.upd_new hq
        have h4' := s4 _ _ (s3 _ _ h2)
        refine ⟨rl, _, _, rfl, rfl, h4', by rw [rowsV_len]; exact small1000 (by omega), LL ++ [(q, L.filter fun p => onM P i p.2)], _, rfl, Same.upd_to ((s2.trans s3).trans s4) hrl, ?_, ?_, ?_⟩
        · rw [upd_same]
          unfold rowsV
          rw [List.map_append]
          rfl
        · rw [List.map_append, e2, List.range_succ, List.map_append]
          rfl
        · intro z hz
          have hz4 : upd H3 q (.tup (rf (L.filter fun p => onM P i p.2))) z.1 = some (.tup (rf z.2)) := by
            rcases List.mem_append.mp hz with c | c
            · exact s4 _ _ (s3 _ _ (t2 z c))
            · rw [List.mem_singleton.mp c]
              exact upd_same
          rw [upd_ne (ne_of hz4 h4' (by intro c; cases c))]
          exact hz4
    · rintro σ H2 ⟨LL, x3, rfl, s2, h2, e2, t2⟩
      rw [Int.toNat_natCast] at e2
      refine ⟨_, rfl, rl, _, rfl, .inl ⟨SqL.of h2, fun r hr' => ?_⟩⟩
      have s3 : Same H2 (upd H2 r (.tup (rowsV LL))) := Same.upd_new hr'
      refine k _ r LL (s2.trans s3) ⟨upd_same, fun q hq => s3 _ _ (t2 q hq), fun q hq p hp => ?_⟩ ?_
      · have : q.2 ∈ (List.range P).map (fun m => L.filter fun p => onM P m p.2) := by
          rw [← e2]
          exact List.mem_map.mpr ⟨q, hq, rfl⟩
        obtain ⟨m, _, em⟩ := List.mem_map.mp this
        rw [← em] at hp
        exact s3 _ _ (s2 _ _ (hA p (List.mem_filter.mp hp).1))
      · unfold rowsD rowsOf
        have := congrArg (List.map ds) e2
        rw [List.map_map, List.map_map] at this
        refine Eq.trans this ?_
        refine List.map_congr_left fun m _ => ?_
        exact ds_filter L
end
end K14
/-! ## K14L4 -/
namespace K14
open PySem L2 PySem.Spec PyProof.Rows
/-- a deed more, in whichever order it was written down -/
theorem GAt.more {H0 H H' : Hp} {dn at_ od a : Addr} {g : G} {m : Nat} {d : Dd} (N : GNew H0 dn at_ od) (A : GAt H0 H dn at_ od g) (hd : d ∉ g.ord) (ha : H a = some (.tup (dv d))) {L : DL} (hL : H od = some (.lst (rf L))) (hA : Ats H L) (eL : ds L = g.ord)
    (e : H' = upd (upd (upd H at_ (.lst ((natsV g.ats).set m (.int ((g.ats.getD m 0 : Nat) + 1))))) dn (.dT (putK (dk g.ord) (keyOf d) (.bl true)))) od (.lst (rf L ++ [.ref a]))) : GAt H0 H' dn at_ od (K14.bump g m d) := by
  have B := GAt.bump (m := m) N A hd ha L hL hA eL
  have : H' = upd (upd (upd H dn (.dT (putK (dk g.ord) (keyOf d) (.bl true)))) od (.lst (rf L ++ [.ref a]))) at_ (.lst ((natsV g.ats).set m (.int ((g.ats.getD m 0 : Nat) + 1)))) := by
    rw [e]
    funext b
    unfold upd
    by_cases c1 : b = od
    · subst c1
      rw [if_pos rfl, if_neg N.ao.symm, if_pos rfl]
    · rw [if_neg c1]
      by_cases c2 : b = dn
      · subst c2
        rw [if_pos rfl, if_neg N.da, if_neg N.do_, if_pos rfl]
      · rw [if_neg c2]
        by_cases c3 : b = at_
        · rw [if_pos c3, if_pos c3]
        · rw [if_neg c3, if_neg c3, if_neg c1, if_neg c2]
  rw [this]
  exact B
section
variable {P : Program} {w : World} {K : PySem.W.Frag} {mg : Str → Option Value} {base : Heap}
/-! ### _law_ordered -/
def spLOrdered : Sp := fun vs H Q _ => ∃ (r : Addr) (LL : RL) (P S N : Nat) (o : List Dd), vs = [.ref r, .int (S : Int)] ∧ RowsAt H r LL ∧ rowsD LL = rowsOf P o ∧ Lw P S N o ∧
  ∀ (H' : Hp) (l : Addr) (L : DL), Same H H' → H' l = some (.lst (rf L)) → Ats H' L → ds L = (run S (rowsOf P o) o.length).ord → Q (.ref l) H'
theorem scLOrdered : FnScope ["_law_rows_here", "_law_stages", "_law_places", "_law_done", "_law_order", "_law_many", "_law_step", "_law_machine", "_law_deed", "_law_row", "_law_need"] ["_law_rows_here", "_law_stages"] (defScope lOrdered) := ⟨rfl, rfl, rfl, by decide +kernel, rfl, by decide +kernel, by decide +kernel⟩
theorem ok_lordered {f : Addr} {fd : FuncData} (F : Fun K "_law_ordered" "_law_ordered" lOrdered f fd) (T : Tx mg) (DN : Def P w K mg base "_law_needed" 1 ["_law_deed", "_law_stages"] spLNeeded) :
    FnOk P w K mg base CX0 2 f fd ["_law_rows_here", "_law_stages"] spLOrdered := by
  refine F.ok scLOrdered (fun vs H Q E h => ?_) (fun cdv A outer s H vs Q E hr h => ?_)
  · obtain ⟨r, LL, P, S, N, o, rfl, _⟩ := h
    rfl
  · obtain ⟨r, LL, P, S, N, o, rfl, R, eR, W, k⟩ := h
    have hu := hu_of hr
    have nd := scLOrdered.nd
    refine ⟨_, pss_cons (ps_set (i := 2) nd rfl (.inl rfl) (pe_op op_rep (pe_lst (pa_cons pe_int pa_nil)) (pe_callB call_len_seq (by rfl) T.len PySem.boot_len (pa_cons (pv 0) pa_nil))))
      (pss_cons (ps_set (i := 3) nd rfl (.inr rfl) pe_dnewT)
      (pss_cons (ps_set (i := 4) nd rfl (.inl rfl) (pe_lst pa_nil))
      (pss_cons (ps_set (i := 5) nd rfl (.inl rfl) (pe_callB (cr_sum rfl) (by rfl) T.sum boot_sum (pa_cons
          (pe_lc (own := [("_law_row", 9)]) (g := gName 9) (tt := tYes) rfl nd (pi_tup (pv 0))
            (blkOk_by (N := ["_law_rows_here", "_law_stages", "_law_places", "_law_done", "_law_order", "_law_many", "_law_step", "_law_machine", "_law_deed", "_law_row", "_law_need"]) (sc := defScope lOrdered) (by decide +kernel))
            (fun _ _ _ _ _ => pg_name (i := 9) nd rfl (.inl rfl)) (fun _ _ _ _ _ => pts_nil)
            (fun _ _ _ _ _ => pe_callB (id := "len") (len_at (K := K) rfl) (by rfl) T.len PySem.boot_len (pa_cons (pv 9) pa_nil))) pa_nil)))
      (pss_cons (ps_for PassesOwn.never rfl (pi_range1 (by rfl) T.range (pa_cons (pv 5) pa_nil)) (pg_name (i := 6) nd rfl (.inl rfl))
        (pss_one (ps_for PassesOwn.never rfl (pi_range1 (by rfl) T.range (pa_cons (pe_callB call_len_seq (by rfl) T.len PySem.boot_len (pa_cons (pv 0) pa_nil)) pa_nil)) (pg_name (i := 7) nd rfl (.inl rfl))
          (pss_one (ps_if (pt_cmpR op_lt (pe_ix ix_list (pv 2) (pv 7) (fun _ _ => rfl)) (pe_callB call_len_seq (by rfl) T.len PySem.boot_len (pa_cons (pe_ix ix_tup (pv 0) (pv 7) (fun _ _ => rfl)) pa_nil)) (nomark _))
            (pss_cons (ps_set (i := 8) nd rfl (.inl rfl) (pe_ix ix_tup (pe_ix ix_tup (pv 0) (pv 7) (fun _ _ => rfl)) (pe_ix ix_list (pv 2) (pv 7) (fun _ _ => rfl)) (fun _ _ => rfl)))
            (pss_one (ps_if (pt_val (pe_callB (cr_all rfl) (by rfl) T.all boot_all (pa_cons
                (pe_lc (own := [("_law_need", 10)]) (g := gName 10) (tt := tYes) rfl nd (pi_list (pe_def DN hr (by rfl) (pa_cons (pv 8) (pa_cons (pv 1) pa_nil))))
                  (blkOk_by (N := ["_law_rows_here", "_law_stages", "_law_places", "_law_done", "_law_order", "_law_many", "_law_step", "_law_machine", "_law_deed", "_law_row", "_law_need"]) (sc := defScope lOrdered) (by decide +kernel))
                  (fun _ _ _ _ _ => pg_name (i := 10) nd rfl (.inl rfl)) (fun _ _ _ _ _ => pts_nil) (fun _ _ _ _ _ => pe_cmp (pc_din hu (pv 10) (pv 3)))) pa_nil)))
              (pss_cons (ps_asg (pe_op op_add (pe_ix ix_list (pv 2) (pv 7) (fun _ _ => rfl)) pe_int) (pg_sub (pv 2) (pv 7) set_list))
              (pss_cons (ps_dput hu (pv 3) (pv 8) pe_bl rfl)
              (pss_cons (ps_expr (pe_bm PySem.F.plainAttrs_list PySem.F.slot_list_append PySem.F.type_list_append mt_append (pv 4) (pa_cons (pv 8) pa_nil)))
              (pss_one ps_break)))) pss_nil))) pss_nil)))))
      (pss_one (ps_ret (pv 4))))))), ?_⟩
    have hLP : LL.length = P := by rw [← rowsD_len, eR, rowsOf_len]
    have hp0 := W.p0
    have hp4 := W.sz.p4
    have h192 := W.small
    -- _law_places
    refine ⟨(by show 1 ≤ sizeLine; decide), fun t ht => ?_⟩
    have s0 : Same H (upd H t (.lst [.int 0])) := Same.upd_new ht
    have hlen : ((rowsV LL).length : Nat) = P := by rw [rowsV_len, hLP]
    refine ⟨_, rfl, r, rowsV LL, rfl, .inr (SqT.of (R.same s0).top), t, _, _, rfl, rfl, upd_same, by rw [hlen]; omega, by rw [hlen]; omega, ?_, fun at_ hat => ?_⟩
    · show 1 * (((rowsV LL).length : Nat) : Int).toNat ≤ sizeLine
      rw [Int.toNat_natCast, Nat.one_mul, hlen]
      exact Nat.le_of_lt (small1000 (by omega))
    have erep : (List.replicate (((rowsV LL).length : Nat) : Int).toNat [V.int 0]).flatten = natsV (List.replicate P 0) := by
      rw [Int.toNat_natCast, hlen, natsV_zeros]
      have : ∀ n : Nat, (List.replicate n [V.int 0]).flatten = List.replicate n (V.int 0) := fun n => by
        induction n with
        | zero => rfl
        | succ n ih => rw [List.replicate_succ, List.flatten_cons, ih]; rfl
      exact this P
    rw [erep]
    have s1 : Same (upd H t (.lst [.int 0])) (upd (upd H t (.lst [.int 0])) at_ (.lst (natsV (List.replicate P 0)))) := Same.upd_new hat
    have sA := s0.trans s1
    have hatH : H at_ = none := s0.free hat
    -- _law_done = {}; _law_order = []
    intro dn hdn
    have s2 := Same.upd_new (o := HO.dT []) hdn
    have hdnH : H dn = none := sA.free hdn
    refine ⟨Nat.zero_le _, fun od hod => ?_⟩
    have s3 := Same.upd_new (o := HO.lst []) hod
    have hodH : H od = none := (sA.trans s2).free hod
    have hat2 := s2 _ _ (upd_same (H := upd H t (.lst [.int 0])) (a := at_) (o := .lst (natsV (List.replicate P 0))))
    have NN : GNew H dn at_ od := ⟨hdnH, hatH, hodH, (ne_of_none upd_same hdn).symm, ne_of_none upd_same hod, ne_of_none hat2 hod⟩
    have G0 : GAt H (upd (upd (upd (upd H t (.lst [.int 0])) at_ (.lst (natsV (List.replicate P 0)))) dn (.dT [])) od (.lst [])) dn at_ od (run S (rowsOf P o) 0) := by
      refine ⟨(sA.trans s2).trans s3, s3 _ _ upd_same, ?_, [], upd_same, Ats.nil, rfl⟩
      rw [s3 _ _ hat2]
      show some (HO.lst (natsV (List.replicate P 0))) = some (HO.lst (natsV (List.replicate (rowsOf P o).length 0)))
      rw [rowsOf_len]
    have e4 : ∃ H4, upd (upd (upd (upd H t (.lst [.int 0])) at_ (.lst (natsV (List.replicate P 0)))) dn (.dT [])) od (.lst []) = H4 ∧ GAt H H4 dn at_ od (run S (rowsOf P o) 0) := ⟨_, rfl, G0⟩
    clear G0 s3 hat2 s2 s1 sA
    obtain ⟨H4, e4, G0⟩ := e4
    show tSeq _ _ _ _ (upd (upd (upd (upd H t (.lst [.int 0])) at_ (.lst (natsV (List.replicate P 0)))) dn (.dT [])) od (.lst []))
    rw [e4]
    -- _law_many = sum([len(_law_row) ..])
    have R4 := R.same G0.same
    refine ⟨_, rfl, r, rfl, ⟨_, SqT.of R4.top⟩, fun D hD => lc_tup (K := K) (a := r) (xs := rowsV LL)
      (fun i H5 => Same H4 H5 ∧ H5 D = some (.lst (intsV (((rowsOf P o).map fun x => (x.length : Int)).take i)))) ⟨Same.upd_new hD, upd_same⟩ (fun i H5 _ h5 => SqT.of (R4.same h5.1).top) ?_ ?_⟩
    · rintro i x H5 hx ⟨s5, h5⟩
      obtain ⟨q, hq, rfl⟩ := of_rowsV hx
      have hi := (List.getElem?_eq_some_iff.mp hq).1
      refine ⟨rfl, _, rfl, q.1, rf q.2, rfl, .inr (SqT.of ((R4.same s5).row q (List.mem_of_getElem? hq))), _, h5, ?_, Same.upd_to s5 hD, ?_⟩
      · rw [intsV_len, List.length_take]
        exact small1000 (by omega)
      · have hr2 : ((rowsOf P o).map fun x => (x.length : Int))[i]? = some (((rf q.2).length : Nat) : Int) := by
          rw [List.getElem?_map, ← eR]
          unfold rowsD
          rw [List.getElem?_map, hq, rf_len]
          show some (((ds q.2).length : Nat) : Int) = _
          rw [ds_len]
        rw [upd_same, List.take_add_one, hr2, intsV_snoc]
        rfl
    · rintro H5 ⟨s5, h5⟩
      have esum : (((rowsOf P o).map fun x => (x.length : Int)).take (rowsV LL).length).sum = (o.length : Int) := by
        rw [hlen, List.take_of_length_le (by rw [List.length_map, rowsOf_len]; exact Nat.le_refl _), ← sum_rows hp0 o]
        have : ∀ l : List (List Dd), (l.map fun x => (x.length : Int)).sum = ((l.map List.length).sum : Nat) := fun l => by
          induction l with
          | nil => rfl
          | cons a r ih => rw [List.map_cons, List.sum_cons, List.map_cons, List.sum_cons, ih, Int.natCast_add]
        exact this _
      refine ⟨D, _, rfl, SqL.of h5, ?_⟩
      rw [esum]
      have A5 := G0.same' s5
      -- for _law_step in range(_law_many)
      refine ⟨_, rfl, (o.length : Int), rfl, by omega, by omega, for_range (lo := 0) (n := ((o.length : Int)).toNat)
        (fun n σ H6 => ∃ (x6 x7 x8 : Option V), σ = [some (.ref r), some (.int S), some (.ref at_), some (.ref dn), some (.ref od), some (.int o.length), x6, x7, x8, none, none] ∧ GAt H H6 dn at_ od (run S (rowsOf P o) n))
        ⟨none, none, none, rfl, A5⟩ ?_ ?_⟩
      · rintro n σ H6 hn ⟨x6, x7, x8, rfl, A6⟩
        have I := gi_run (S := S) (R := rowsOf P o) n
        -- for _law_machine in range(len(rows))
        refine ⟨_, rfl, r, rowsV LL, rfl, .inr (SqT.of (R.same A6.same).top), (((rowsV LL).length : Nat) : Int), rfl, by omega, by omega, for_range (lo := 0) (n := (((rowsV LL).length : Nat) : Int).toNat)
          (fun i σ H7 => ∃ (x7 x8 : Option V), σ = [some (.ref r), some (.int S), some (.ref at_), some (.ref dn), some (.ref od), some (.int o.length), some (.int (0 + (n : Int))), x7, x8, none, none] ∧ GAt H H7 dn at_ od (run S (rowsOf P o) n) ∧
            ∀ j, j < i → able S (rowsOf P o) (run S (rowsOf P o) n).ats (run S (rowsOf P o) n).ord j = none) ⟨x7, x8, rfl, A6, fun j hj => absurd hj (Nat.not_lt_zero _)⟩ ?_ ?_⟩
        · rintro i σ H7 hi ⟨y7, y8, rfl, A7, hbef⟩
          rw [Int.toNat_natCast, hlen] at hi
          obtain ⟨q, hq⟩ : ∃ q, LL[i]? = some q := ⟨LL[i], List.getElem?_eq_getElem (by omega)⟩
          have hqm := List.mem_of_getElem? hq
          obtain ⟨hiP, hrow⟩ := mem_row eR hq
          have R7 := R.same A7.same
          have hil : i < (run S (rowsOf P o) n).ats.length := by rw [I.la, rowsOf_len]; exact hi
          have e0 : (0 + (i : Int)) = (i : Int) := by omega
          have hat7 := at_of (z := 0 + (i : Int)) (j := i) e0 (natsV_at hil)
          have hrq := at_of (z := 0 + (i : Int)) (j := i) e0 (rowsV_at hq)
          refine ⟨_, rfl, _, rfl, at_, _, _, _, rfl, rfl, SqL.of A7.ats, hat7, _, rfl, _, rfl, r, _, _, _, rfl, rfl, SqT.of R7.top, hrq, q.1, rf q.2, rfl, .inr (SqT.of (R7.row q hqm)), _, _, rfl, rfl, _, rfl, ?_⟩
          refine ite2 (fun c => ?_) (fun c => ?_)
          · have c' : (((run S (rowsOf P o) n).ats.getD i 0 : Nat) : Int) < ((rf q.2).length : Nat) := of_decide_eq_true c
            rw [rf_len] at c'
            have hai : (run S (rowsOf P o) n).ats.getD i 0 < q.2.length := by omega
            have hd : q.2[(run S (rowsOf P o) n).ats.getD i 0]? = some q.2[(run S (rowsOf P o) n).ats.getD i 0] := List.getElem?_eq_getElem hai
            generalize q.2[(run S (rowsOf P o) n).ats.getD i 0] = d at hd
            have hrowd : ((rowsOf P o).getD i [])[(run S (rowsOf P o) n).ats.getD i 0]? = some d.2 := by
              rw [rowsOf_at hiP, ← hrow]
              exact ds_at hd
            have hA7 : H7 d.1 = some (.tup (dv d.2)) := (R7.deed q hqm).get hd
            refine ⟨_, rfl, _, rfl, r, _, _, _, rfl, rfl, SqT.of R7.top, hrq, _, rfl, _, rfl, at_, _, _, _, rfl, rfl, SqL.of A7.ats, hat7, q.1, _, _, _, rfl, rfl, SqT.of (R7.row q hqm), at_of (j := (run S (rowsOf P o) n).ats.getD i 0) rfl (rf_at hd), ?_⟩
            refine ⟨_, rfl, _, rfl, d.1, d.2, S, rfl, hA7, fun H8 q8 L8 s8 hq8 hL8 eL8 => ⟨q8, rfl, ⟨_, SqL.of hq8⟩, fun D2 hD2 => ?_⟩⟩
            have A8 := A7.same' s8
            refine lc_list (K := K) (a := q8) (xs := rf L8) (fun i H9 => Same H8 H9 ∧ H9 D2 = some (.lst (((ds L8).take i).map fun z => V.bl (decide (z ∈ (run S (rowsOf P o) n).ord))))) ⟨Same.upd_new hD2, upd_same⟩
              (fun i H9 _ h9 => SqL.of (h9.1 _ _ hq8)) ?_ ?_
            · rintro j x H9 hx ⟨s9, hD9⟩
              obtain ⟨z, hz, rfl⟩ := of_rf hx
              refine ⟨rfl, _, rfl, _, rfl, dn, _, rfl, DGet.t (k := keyOf z.2) (s9 _ _ A8.dn) (At.key (s9 _ _ (hL8.get hz))), _, hD9, ?_, Same.upd_to s9 hD2, ?_⟩
              · rw [List.length_map, List.length_take]
                have h1 : (needD S d.2).length ≤ 2 := by
                  unfold needD
                  split <;> split <;> simp
                rw [eL8]
                exact small1000 (by omega)
              · rw [upd_same, map_pfx _ (ds_at hz), dk_some]
            · rintro H9 ⟨s9, hD9⟩
              have A9 := A8.same' s9
              have hbs : ((ds L8).take (rf L8).length).map (fun z => V.bl (decide (z ∈ (run S (rowsOf P o) n).ord))) = ((ds L8).map fun z => decide (z ∈ (run S (rowsOf P o) n).ord)).map V.bl := by
                rw [rf_len, List.take_of_length_le (by rw [ds_len]; exact Nat.le_refl _), List.map_map]
                rfl
              rw [hbs] at hD9
              refine ⟨D2, _, rfl, SqL.of hD9, _, rfl, ?_⟩
              rw [eL8, List.all_map]
              have hA9 : H9 d.1 = some (.tup (dv d.2)) := s9 _ _ (s8 _ _ hA7)
              refine ite2 (fun c2 => ?_) (fun c2 => ?_)
              · have hall : ∀ z ∈ needD S d.2, z ∈ (run S (rowsOf P o) n).ord := fun z hz => of_decide_eq_true (List.all_eq_true.mp c2 z hz)
                have hab := able_of (S := S) (R := rowsOf P o) (ats := (run S (rowsOf P o) n).ats) (done := (run S (rowsOf P o) n).ord) hrowd hall
                have hpk := pick_at (g := run S (rowsOf P o) n) (by rw [rowsOf_len]; exact hiP) hab hbef
                have erun := step_some hpk
                obtain ⟨n1, n2⟩ := ord_ok (P := P) W.od (n + 1)
                have hnot : d.2 ∉ (run S (rowsOf P o) n).ord := by
                  rw [erun] at n1
                  have n1' : ((run S (rowsOf P o) n).ord ++ [d.2]).Nodup := n1
                  intro hm
                  exact (List.nodup_append.mp n1').2.2 _ hm _ (List.mem_singleton.mpr rfl) rfl
                obtain ⟨L, hL, hLA, eL⟩ := A9.od
                have hordlen : (run S (rowsOf P o) n).ord.length ≤ 192 := by
                  have := nodup_sub_len (ord_ok (P := P) W.od n).1 (ord_ok (P := P) W.od n).2
                  omega
                have hLlen : L.length ≤ 192 := by
                  rw [← ds_len, eL]
                  exact hordlen
                -- places, done, order
                refine ⟨_, rfl, _, rfl, at_, _, _, _, rfl, rfl, SqL.of A9.ats, hat7, _, _, rfl, rfl, _, rfl, _, rfl, at_, _, _, i, rfl, rfl, A9.ats, by rw [natsV_len, e0]; exact ixN_nat hil, ?_⟩
                have hdn10 : upd H9 at_ (.lst ((natsV (run S (rowsOf P o) n).ats).set i (.int ((((run S (rowsOf P o) n).ats.getD i 0 : Nat) : Int) + 1)))) dn = some (.dT (dk (run S (rowsOf P o) n).ord)) := by
                  rw [upd_ne NN.da]
                  exact A9.dn
                have hA10 : upd H9 at_ (.lst ((natsV (run S (rowsOf P o) n).ats).set i (.int ((((run S (rowsOf P o) n).ats.getD i 0 : Nat) : Int) + 1)))) d.1 = some (.tup (dv d.2)) := by
                  rw [upd_ne (ne_of hA9 A9.ats (by intro z; cases z))]
                  exact hA9
                refine ⟨_, rfl, _, rfl, dn, _, rfl, DPut.t (k := keyOf d.2) hdn10 (At.key hA10) (by rw [dk_len]; exact small1000 (by omega)), ?_⟩
                have hod11 : upd (upd H9 at_ (.lst ((natsV (run S (rowsOf P o) n).ats).set i (.int ((((run S (rowsOf P o) n).ats.getD i 0 : Nat) : Int) + 1))))) dn (.dT (putK (dk (run S (rowsOf P o) n).ord) (keyOf d.2) (.bl true))) od = some (.lst (rf L)) := by
                  rw [upd_ne NN.do_.symm, upd_ne NN.ao.symm]
                  exact hL
                refine ⟨_, rfl, .inl ⟨rfl, _, SqL.of hod11⟩, _, rfl, od, _, _, rfl, rfl, hod11, by rw [rf_len]; exact small1000 (by omega), ?_⟩
                refine ⟨_, _, _, rfl, ?_⟩
                rw [erun]
                exact GAt.more (m := i) NN A9 hnot hA9 hL hLA eL rfl
              · have hoff : able S (rowsOf P o) (run S (rowsOf P o) n).ats (run S (rowsOf P o) n).ord i = none := able_not hrowd (Bool.eq_false_iff.mpr c2)
                refine ⟨_, _, rfl, A9, fun j hj => ?_⟩
                rcases Nat.lt_or_ge j i with h | h
                · exact hbef j h
                · have : j = i := by omega
                  rw [this]
                  exact hoff
          · have hnone : ((rowsOf P o).getD i [])[(run S (rowsOf P o) n).ats.getD i 0]? = none := by
              rw [rowsOf_at hiP, ← hrow, List.getElem?_eq_none_iff, ds_len]
              have c' : ¬ (((run S (rowsOf P o) n).ats.getD i 0 : Nat) : Int) < ((rf q.2).length : Nat) := fun z => c (decide_eq_true z)
              rw [rf_len] at c'
              omega
            refine ⟨_, _, rfl, A7, fun j hj => ?_⟩
            rcases Nat.lt_or_ge j i with h | h
            · exact hbef j h
            · have : j = i := by omega
              rw [this]
              exact able_off hnone
        · rintro σ H7 ⟨y7, y8, rfl, A7, hno⟩
          rw [Int.toNat_natCast, hlen] at hno
          have hpk : pick S (rowsOf P o) (run S (rowsOf P o) n) = none := pick_no fun j hj => hno j (by rw [rowsOf_len] at hj; exact hj)
          exact ⟨_, _, _, rfl, by rw [step_none hpk]; exact A7⟩
      · rintro σ H6 ⟨x6, x7, x8, rfl, A6⟩
        rw [Int.toNat_natCast] at A6
        obtain ⟨L, hL, hLA, eL⟩ := A6.od
        exact ⟨_, rfl, k H6 od L A6.same hL hLA eL⟩
end
end K14
/-! ## K14Dat -/
namespace K14
open PySem L2 PySem.Spec PyProof.Rows

/-! ### deeds as data: what repr shows, how sorted orders -/
def dd (d : Dd) : PyData := .tuple [.str (wy d.f), .int (d.k : Int), .int (d.s : Int)]
def ddL (l : List Dd) : PyData := .tuple (l.map dd)
def ddR (R : List (List Dd)) : PyData := .tuple (R.map ddL)
theorem dp_deed {K : PySem.W.Frag} {H : Hp} {a : Addr} {d : Dd} (h : H a = some (.tup (dv d))) : Dp K H (.ref a) (dd d) :=
  .tup (SqT.of h) (.cons (.str _) (.cons (.int _) (.cons (.int _) .nil)))
theorem dp_all {K : PySem.W.Frag} {H : Hp} : ∀ {L : DL}, Ats H L → DpAll K H (rf L) ((ds L).map dd)
  | [], _ => .nil
  | p :: r, h => .cons (dp_deed (h p List.mem_cons_self)) (dp_all fun q hq => h q (List.mem_cons_of_mem _ hq))
theorem dp_deeds {K : PySem.W.Frag} {H : Hp} {p : Addr} {L : DL} (h : H p = some (.tup (rf L))) (hA : Ats H L) : Dp K H (.ref p) (ddL (ds L)) := .tup (SqT.of h) (dp_all hA)
theorem dp_rowsAll {K : PySem.W.Frag} {H : Hp} : ∀ {LL : RL}, (∀ q ∈ LL, H q.1 = some (.tup (rf q.2))) → (∀ q ∈ LL, Ats H q.2) → DpAll K H (rowsV LL) ((rowsD LL).map ddL)
  | [], _, _ => .nil
  | q :: r, h1, h2 => .cons (dp_deeds (h1 q List.mem_cons_self) (h2 q List.mem_cons_self)) (dp_rowsAll (fun z hz => h1 z (List.mem_cons_of_mem _ hz)) fun z hz => h2 z (List.mem_cons_of_mem _ hz))
theorem dp_rows {K : PySem.W.Frag} {H : Hp} {r : Addr} {LL : RL} (R : RowsAt H r LL) : Dp K H (.ref r) (ddR (rowsD LL)) := .tup (SqT.of R.top) (dp_rowsAll R.row R.deed)

/-- small numbers -/
def Sm (d : Dd) : Prop := d.k < 200 ∧ d.s < 200
theorem sm_int : ∀ n : Nat, n < 200 → (Str.ofString (toString (n : Int))).length ≤ 3 := by decide +kernel
theorem sm_wy : ∀ b, (reprText (wy b)).length ≤ 3
  | true => by decide +kernel
  | false => by decide +kernel
theorem sm_log {n : Nat} (h : n < 200) : ((n : Int)).natAbs.log2 < 1920 := by
  have := Nat.log2_le_self n
  show n.log2 < 1920
  omega
theorem dd_show {d : Dd} (h : Sm d) : (dd d).showable = true := by
  simp only [dd, PyData.showable, PyData.showableAll, Bool.and_true, Bool.true_and, Bool.and_eq_true, decide_eq_true_eq]
  exact ⟨sm_log h.1, sm_log h.2⟩
theorem dd_nodict (d : Dd) : (dd d).hasDict = false := rfl
theorem dd_depth (d : Dd) : (dd d).depth = 1 := rfl
theorem dd_len {d : Dd} (h : Sm d) : (dd d).shown.length ≤ 17 := by
  have e : (dd d).shown = tupleText [reprText (wy d.f), Str.ofString (toString (d.k : Int)), Str.ofString (toString (d.s : Int))] := rfl
  rw [e]
  have h1 := fmt_text [reprText (wy d.f), Str.ofString (toString (d.k : Int)), Str.ofString (toString (d.s : Int))]
  rw [piled_cons, piled_cons, piled_cons, piled_nil] at h1
  have h2 := sm_wy d.f
  have h3 := sm_int d.k h.1
  have h4 := sm_int d.s h.2
  omega
theorem all_show : ∀ {l : List Dd}, (∀ d ∈ l, Sm d) → PyData.showableAll (l.map dd) = true
  | [], _ => rfl
  | d :: r, h => by
    show ((dd d).showable && PyData.showableAll (r.map dd)) = true
    rw [dd_show (h d List.mem_cons_self), all_show fun z hz => h z (List.mem_cons_of_mem _ hz)]
    rfl
theorem all_nodict : ∀ l : List Dd, PyData.hasDictAll (l.map dd) = false
  | [] => rfl
  | d :: r => by
    show ((dd d).hasDict || PyData.hasDictAll (r.map dd)) = false
    rw [dd_nodict, all_nodict r]
    rfl
theorem all_depth : ∀ l : List Dd, PyData.depthAll (l.map dd) ≤ 1
  | [] => Nat.zero_le _
  | d :: r => by
    show max (dd d).depth (PyData.depthAll (r.map dd)) ≤ 1
    have := all_depth r
    rw [dd_depth]
    omega
theorem all_piled : ∀ {l : List Dd}, (∀ d ∈ l, Sm d) → piled (PyData.shownAll (l.map dd)) ≤ 19 * l.length
  | [], _ => Nat.zero_le _
  | d :: r, h => by
    show piled ((dd d).shown :: PyData.shownAll (r.map dd)) ≤ _
    rw [piled_cons, List.length_cons]
    have h1 := dd_len (h d List.mem_cons_self)
    have h2 := all_piled (l := r) fun z hz => h z (List.mem_cons_of_mem _ hz)
    omega
theorem ddL_len {l : List Dd} (h : ∀ d ∈ l, Sm d) : (ddL l).shown.length ≤ 19 * l.length + 2 := by
  have e : (ddL l).shown = tupleText (PyData.shownAll (l.map dd)) := rfl
  rw [e]
  have h1 := fmt_text (PyData.shownAll (l.map dd))
  have h2 := all_piled h
  omega
/-- what repr asks of a tuple of deeds -/
theorem ddL_ok {l : List Dd} (h : ∀ d ∈ l, Sm d) (hl : l.length ≤ 192) : (ddL l).showable = true ∧ (ddL l).hasDict = false ∧ (ddL l).shown.length ≤ sizeLine ∧ (ddL l).depth ≤ 32 := by
  refine ⟨all_show h, all_nodict l, ?_, ?_⟩
  · have := ddL_len h
    rw [sizeLine_eq]
    omega
  · show PyData.depthAll (l.map dd) + 1 ≤ 32
    have := all_depth l
    omega
theorem rows_show : ∀ {R : List (List Dd)}, (∀ l ∈ R, ∀ d ∈ l, Sm d) → PyData.showableAll (R.map ddL) = true
  | [], _ => rfl
  | l :: r, h => by
    show ((ddL l).showable && PyData.showableAll (r.map ddL)) = true
    have e : (ddL l).showable = true := all_show (h l List.mem_cons_self)
    rw [e, rows_show fun z hz => h z (List.mem_cons_of_mem _ hz)]
    rfl
theorem rows_nodict : ∀ R : List (List Dd), PyData.hasDictAll (R.map ddL) = false
  | [] => rfl
  | l :: r => by
    show ((ddL l).hasDict || PyData.hasDictAll (r.map ddL)) = false
    have e : (ddL l).hasDict = false := all_nodict l
    rw [e, rows_nodict r]
    rfl
theorem rows_depth : ∀ R : List (List Dd), PyData.depthAll (R.map ddL) ≤ 2
  | [] => Nat.zero_le _
  | l :: r => by
    show max (ddL l).depth (PyData.depthAll (r.map ddL)) ≤ 2
    have h1 := rows_depth r
    have h2 : (ddL l).depth ≤ 2 := by
      show PyData.depthAll (l.map dd) + 1 ≤ 2
      have := all_depth l
      omega
    omega
theorem rows_piled : ∀ {R : List (List Dd)}, (∀ l ∈ R, ∀ d ∈ l, Sm d) → (∀ l ∈ R, l.length ≤ 192) → piled (PyData.shownAll (R.map ddL)) ≤ 4000 * R.length
  | [], _, _ => Nat.zero_le _
  | l :: r, h, hl => by
    show piled ((ddL l).shown :: PyData.shownAll (r.map ddL)) ≤ _
    rw [piled_cons, List.length_cons]
    have h1 := ddL_len (h l List.mem_cons_self)
    have h3 := hl l List.mem_cons_self
    have h2 := rows_piled (R := r) (fun z hz => h z (List.mem_cons_of_mem _ hz)) fun z hz => hl z (List.mem_cons_of_mem _ hz)
    omega
theorem ddR_ok {R : List (List Dd)} (h : ∀ l ∈ R, ∀ d ∈ l, Sm d) (hl : ∀ l ∈ R, l.length ≤ 192) (hR : R.length ≤ 4) : (ddR R).showable = true ∧ (ddR R).hasDict = false ∧ (ddR R).shown.length ≤ sizeLine ∧ (ddR R).depth ≤ 32 := by
  refine ⟨rows_show h, rows_nodict R, ?_, ?_⟩
  · have e : (ddR R).shown = tupleText (PyData.shownAll (R.map ddL)) := rfl
    rw [e]
    have h1 := fmt_text (PyData.shownAll (R.map ddL))
    have h2 := rows_piled h hl
    rw [sizeLine_eq]
    omega
  · show PyData.depthAll (R.map ddL) + 1 ≤ 32
    have := rows_depth R
    omega

/-! ### the needs stand in order -/
theorem dd_alike (a b : Dd) : PySem.W.alike (dd a) (dd b) = true := rfl
theorem dd_sortable (l : List Dd) : PySem.W.Sortable (l.map dd) := .inl fun d hd => by
  obtain ⟨z, _, rfl⟩ := List.mem_map.mp hd
  exact ⟨_, _, rfl⟩
theorem dd_allAlike (l : List Dd) : PySem.W.AllAlike (l.map dd) := fun d hd d' hd' => by
  obtain ⟨z, _, rfl⟩ := List.mem_map.mp hd
  obtain ⟨z', _, rfl⟩ := List.mem_map.mp hd'
  exact dd_alike z z'
theorem wy_cps : itemOrd.blt (.inr (wy true).cps.toList) (.inr (wy false).cps.toList) = false := by decide +kernel
theorem wy_cps_ne : (Sum.inr (wy true).cps.toList : Int ⊕ List Nat) ≠ Sum.inr (wy false).cps.toList := by decide +kernel
theorem lt_fb (k1 s1 k2 s2 : Nat) : PySem.W.dataLt (dd ⟨true, k1, s1⟩) (dd ⟨false, k2, s2⟩) = false := by
  show PyProof.Rows.lexLt itemOrd (Sum.inl 1 :: Sum.inr (wy true).cps.toList :: _) (Sum.inl 1 :: Sum.inr (wy false).cps.toList :: _) = false
  rw [lex_self, lex_diff wy_cps_ne]
  exact wy_cps
theorem need_sorted (S : Nat) (d : Dd) (L : DL) (h : ds L = needD S d) : (L.map fun p => (p.1, dd p.2)).Pairwise (fun a b => PySem.W.dataLe false (fun z : Addr × PyData => z.2) a b = true) := by
  rw [List.pairwise_map]
  have key : (ds L).Pairwise (fun a b => (!PySem.W.dataLt (dd b) (dd a)) = true) := by
    rw [h]
    unfold needD
    split
    · split <;> simp
    · split
      · refine List.pairwise_cons.mpr ⟨fun b hb => ?_, List.pairwise_singleton _ _⟩
        rw [List.mem_singleton.mp hb, lt_fb]
        rfl
      · exact List.pairwise_singleton _ _
  unfold ds at key
  rw [List.pairwise_map] at key
  refine key.imp fun {a b} hab => ?_
  rw [PySem.W.dataLe_eq]
  exact hab
end K14
/-! ## K14Law -/
namespace K14
open PySem L2 PySem.Spec PyProof.Rows
/-- the class, made by its name -/
structure DefC (P : Program) (w : World) (K : PySem.W.Frag) (mg : Str → Option Value) (base : Heap) (x : Str) (C : Addr) (k : Nat) (ps : List Str) (sp : Sp) : Prop where
  ex : ∃ (f : Addr) (fd : FuncData), Mk K C f ∧ FnOk P w K mg base CX0 k f fd ps sp ∧ mg x = some (.ref C) ∧ Binds K fd ps []
theorem pe_cls {X : Cx} {x : Str} {C : Addr} {k : Nat} {ps : List Str} {sp : Sp} {p pos : Pos} {e : Expr} {es : List Expr} {t : TA} (D : DefC X.prog X.w X.K X.mg X.base x C k ps sp) (hr : Room (k + 1) X.A) (hg : Gl X x) (ha : PA X (e :: es) t)
    (hdb : (x == ("__debug__" : Str)) = false := by decide) (he : starEach (e :: es) X.env = (false, eval e X.env) :: starEach es X.env := by rfl) (hpl : (backTo pos (starEach es X.env)).any (·.1) = false := by rfl) :
    PE X (.Call (.Name x p) (e :: es) [] pos) (tMake C sp [] E0 t) := by
  obtain ⟨f, fd, M, F, hm, hb⟩ := D.ex
  exact pe_make M F hr hg hm hb .nil pass0 ha hdb he hpl
/-- a def called by keywords alone -/
structure DefN (P : Program) (w : World) (K : PySem.W.Frag) (mg : Str → Option Value) (base : Heap) (x : Str) (k : Nat) (ps : List Str) (sp : Sp) : Prop where
  ex : ∃ (f : Addr) (fd : FuncData), FnOk P w K mg base CX0 k f fd ps sp ∧ mg x = some (.ref f) ∧ PySem.W.keepIn K (.ref f) = true ∧ KBn K fd ps 0 ps (fun _ ws => ws) (fun _ zs => zs)
theorem pe_defN {X : Cx} {x : Str} {k : Nat} {ps : List Str} {sp : Sp} {p pos : Pos} {kws : List Keyword} {tk : TA} (D : DefN X.prog X.w X.K X.mg X.base x k ps sp) (hr : Room k X.A) (hg : Gl X x) (hkw : PK X kws tk)
    (hall : (backToKw pos (keywordEach kws X.env)).all (·.1.isSome) = true := by rfl) (hks : (backToKw pos (keywordEach kws X.env)).filterMap (·.1) = ps := by rfl) (hdb : (x == ("__debug__" : Str)) = false := by decide)
    (hpl : ((backTo pos (starEach [] X.env)).any (·.1) || (backToKw pos (keywordEach kws X.env)).any (·.1.isNone)) = false := by rfl) :
    PE X (.Call (.Name x p) [] kws pos) (tCallN 0 ps.length sp (fun _ zs => zs) E0 tNil tk) := by
  obtain ⟨f, fd, F, hm, hk, hb⟩ := D.ex
  exact pe_callN0 F hr hg hm hk hb pass0 hkw hall hks hdb hpl

/-- all the defs that the law calls -/
structure All (P : Program) (w : World) (K : PySem.W.Frag) (mg : Str → Option Value) (base : Heap) (C : Addr) : Prop where
  draws : Def P w K mg base "_law_draws" 1 ["_law_script", "_law_many"] (spDraws K)
  sizes : Def P w K mg base "_law_sizes" 2 ["_law_hand", "_law_most"] spLSizes
  drawn : Def P w K mg base "_law_drawn_order" 2 ["_law_hand", "_law_stages", "_law_portions"] spDrawn
  rows : Def P w K mg base "_law_rows" 1 ["_law_order", "_law_machines"] spLRows
  ordered : Def P w K mg base "_law_ordered" 2 ["_law_rows_here", "_law_stages"] spLOrdered
  needed : Def P w K mg base "_law_needed" 1 ["_law_deed", "_law_stages"] spLNeeded
  sched : DefC P w K mg base "Schedule" C 4 ["self", "machines", "stages", "portions", "rows"] (spInit C)
  some_ : DefN P w K mg base "some_order" 3 ["schedule"] (spSome C)
  needs : DefN P w K mg base "needs" 2 ["schedule", "deed"] (spNeeds C)

def spLaw (K : PySem.W.Frag) : Sp := fun vs H Q _ => ∃ (a : Addr) (ns : List Int), vs = [.ref a] ∧ SqL K H a (ns.map V.int) ∧ ns.length ≤ 63 ∧ ∀ H', Q (.bl true) H'
theorem scLaw : FnScope ["_law_script", "_law_hand", "_law_machines", "_law_stages", "_law_portions", "_law_order", "_law_rows_here", "_law_schedule", "_law_due", "_law_again", "_law_deed", "_law_passed"] ["_law_script"] (defScope lLaw) := ⟨rfl, rfl, rfl, by decide +kernel, rfl, by decide +kernel, by decide +kernel⟩
theorem law_len {K : PySem.W.Frag} : ∀ vs H Q E, spLaw K vs H Q E → vs.length = (["_law_script"] : List Str).length := fun vs H Q E h => by
  obtain ⟨a, ns, rfl, _⟩ := h
  rfl
section
variable {P : Program} {w : World} {K : PySem.W.Frag} {mg : Str → Option Value} {base : Heap}
theorem sm_of {P S N : Nat} {o : List Dd} (W : Lw P S N o) : ∀ d ∈ o, Sm d := fun d hd => by
  have h1 := W.kk d hd
  have h2 := W.od.st d hd
  have h3 := W.sz.k8
  have h4 := W.sz.s12
  exact ⟨by omega, by omega⟩
theorem body_law {cdv : Value} {A : Around} {outer : List Env} {s : Shared} {H : Hp} {vs : List V} {Q : VK} {E : XK} {f C : Addr} (T : Tx mg) (TK : TC K C) (D : All P w K mg base C)
    (hg : (A.deeper (envOfC "law" (defScope lLaw) s.heap.objs.size f cdv)).guards = some []) (hr : Room 5 (A.deeper (envOfC "law" (defScope lLaw) s.heap.objs.size f cdv))) (h : spLaw K vs H Q E) :
    ∃ t, PSs (cxOf CX0 P w K mg base ["_law_script", "_law_hand", "_law_machines", "_law_stages", "_law_portions", "_law_order", "_law_rows_here", "_law_schedule", "_law_due", "_law_again", "_law_deed", "_law_passed"] "law" (defScope lLaw) f cdv A outer s H E).nox (defBody lLaw) t ∧
      t { nx := fun _ H' => Q .non H', rt := Q } (start ["_law_script", "_law_hand", "_law_machines", "_law_stages", "_law_portions", "_law_order", "_law_rows_here", "_law_schedule", "_law_due", "_law_again", "_law_deed", "_law_passed"] vs) H := by
  obtain ⟨a, ns, rfl, hS, hlen, k⟩ := h
  have nd := scLaw.nd
  have hr1 : Room 1 _ := hr.mono (by decide)
  have hr2 : Room 2 _ := hr.mono (by decide)
  have hr3 : Room 3 _ := hr.mono (by decide)
  have hu64 := hr.units
  refine ⟨_, pss_cons (ps_set (i := 1) nd rfl (.inl rfl) (pe_lst (pa_cons (pe_def D.draws hr1 (by rfl) (pa_cons (pv 0) (pa_cons pe_int pa_nil))) (pa_cons pe_int pa_nil))))
    (pss_cons (ps_asg (pe_def D.sizes hr2 (by rfl) (pa_cons (pv 1) (pa_cons pe_int pa_nil))) (pg_unl (by rfl) (pgs_cons (pg_name (i := 2) nd rfl (.inl rfl)) (pgs_cons (pg_name (i := 3) nd rfl (.inl rfl)) (pgs_cons (pg_name (i := 4) nd rfl (.inl rfl)) pgs_nil)))))
    (pss_cons (ps_set (i := 5) nd rfl (.inl rfl) (pe_def D.drawn hr2 (by rfl) (pa_cons (pv 1) (pa_cons (pv 3) (pa_cons (pv 4) pa_nil)))))
    (pss_cons (ps_set (i := 6) nd rfl (.inl rfl) (pe_def D.rows hr1 (by rfl) (pa_cons (pv 5) (pa_cons (pv 2) pa_nil))))
    (pss_cons (ps_set (i := 7) nd rfl (.inl rfl) (pe_cls D.sched hr (by rfl) (pa_cons (pv 2) (pa_cons (pv 3) (pa_cons (pv 4) (pa_cons (pv 6) pa_nil))))))
    (pss_cons (ps_set (i := 8) nd rfl (.inl rfl) (pe_def D.ordered hr2 (by rfl) (pa_cons (pv 6) (pa_cons (pv 3) pa_nil))))
    (pss_cons (ps_if (pt_cmpR op_ne (pe_callB call_len_seq (by rfl) T.len PySem.boot_len (pa_cons (pv 8) pa_nil)) (pe_callB call_len_seq (by rfl) T.len PySem.boot_len (pa_cons (pv 5) pa_nil)) (nomark _)) (pss_one (ps_ret pe_bl)) pss_nil)
    (pss_cons (ps_for PassesOwn.never rfl (pi_range1 (by rfl) T.range (pa_cons pe_int pa_nil)) (pg_name (i := 9) nd rfl (.inl rfl))
      (pss_cons (ps_if (pt_cmpR op_ne (pe_callB (call_repr hg hu64) (by rfl) T.repr boot_repr (pa_cons (pe_defN D.some_ hr3 (by rfl) (pk_cons (pv 7) pk_nil)) pa_nil))
          (pe_callB (call_repr hg hu64) (by rfl) T.repr boot_repr (pa_cons (pe_callTy (T := "tuple") call_tuple_of (by rfl) T.tuple boot_tuple (pa_cons (pv 8) pa_nil)) pa_nil)) (nomark _)) (pss_one (ps_ret pe_bl)) pss_nil)
      (pss_one (ps_for PassesOwn.never rfl (pi_list (pv 5)) (pg_name (i := 10) nd rfl (.inl rfl))
        (pss_cons (ps_set (i := 11) nd rfl (.inl rfl) (pe_ix ix_list (pe_lst (pa_cons (pv 10) (pa_cons (pe_callTy (T := "list") call_list_of (by rfl) T.list boot_list (pa_cons (pv 10) pa_nil)) pa_nil)))
          (pe_callTy (T := "int") call_int1 (by rfl) T.int boot_int (pa_cons (pv 9) pa_nil)) (fun _ _ => rfl)))
        (pss_one (ps_if (pt_cmpR op_ne (pe_callB (call_repr hg hu64) (by rfl) T.repr boot_repr (pa_cons (pe_defN D.needs hr2 (by rfl) (pk_cons (pv 7) (pk_cons (pv 11) pk_nil))) pa_nil))
          (pe_callB (call_repr hg hu64) (by rfl) T.repr boot_repr (pa_cons (pe_callTy (T := "tuple") call_tuple_of (by rfl) T.tuple boot_tuple (pa_cons
            (pe_callB (call_sortedD hu64) (by rfl) T.sorted boot_sorted (pa_cons (pe_def D.needed hr1 (by rfl) (pa_cons (pv 10) (pa_cons (pv 3) pa_nil))) pa_nil)) pa_nil)) pa_nil)) (nomark _)) (pss_one (ps_ret pe_bl)) pss_nil)))))))
    (pss_one (ps_ret (pe_cmpR op_eq (pe_callB (call_repr hg hu64) (by rfl) T.repr boot_repr (pa_cons (pe_fld (pv 7) rfl) pa_nil)) (pe_callB (call_repr hg hu64) (by rfl) T.repr boot_repr (pa_cons (pv 6) pa_nil)) (nomark _))))))))))), ?_⟩
  -- _law_hand
  refine ⟨_, rfl, a, ns, rfl, hS, hlen, fun H1 dl drs s1 hdl hnn => ⟨(by show 2 ≤ sizeLine; decide), fun hp hhp => ?_⟩⟩
  have hh : Hand (upd H1 hp (.lst [.ref dl, .int 0])) hp dl := ⟨⟨0, upd_same⟩, drs, Same.upd_new hhp _ _ hdl, hnn⟩
  -- machines, stages, portions
  refine ⟨_, rfl, hp, dl, rfl, hh, fun H2 q2 Pn Sn Nn Z b2 hh2 hq2 => ⟨q2, _, rfl, SqL.of hq2, rfl, _, _, rfl, _, _, rfl, _, _, rfl, rfl, ?_⟩⟩
  -- order
  refine ⟨_, rfl, _, rfl, _, rfl, hp, dl, Pn, Sn, Nn, rfl, Z, hh2, fun H3 ol L b3 hh3 _ hL hA W => ?_⟩
  -- rows
  refine ⟨_, rfl, _, rfl, ol, L, Pn, Sn, Nn, rfl, hL, hA, W, fun H4 r LL s4 R eR => ?_⟩
  have hL4 := s4 _ _ hL
  have hA4 := hA.same s4
  -- Schedule(..)
  refine ⟨_, rfl, _, rfl, _, rfl, _, rfl, fun x dx nx ndx nex => ?_⟩
  have s5 : Same H4 (upd (upd H4 dx (.own x)) x (.ins C dx [])) := fun b o e => by
    rw [upd_ne (ne_of_none e nx), upd_ne (ne_of_none e ndx)]
    exact e
  refine ⟨x, dx, r, LL, Pn, Sn, Nn, ds L, rfl, upd_same, R.same s5, eR, W, fun H6 r' LL' k6 hx6 R6 eR6 => ⟨rfl, ?_⟩⟩
  have s6 : Same H4 H6 := fun b o e => k6 b o (s5 b o e) (ne_of_none e nx)
  -- due
  refine ⟨_, rfl, _, rfl, r, LL, Pn, Sn, Nn, ds L, rfl, R.same s6, eR, W, fun H7 due L7 s7 hdue hA7 eL7 => ?_⟩
  have hlen7 : (rf L7).length = (rf L).length := by
    rw [rf_len, ← ds_len, eL7, run_len W.p0 W.od _ (Nat.le_refl _), ds_len, rf_len]
  have s47 := s6.trans s7
  -- if len(due) != len(order)
  refine ⟨_, rfl, due, rf L7, rfl, .inl (SqL.of hdue), _, rfl, ol, rf L, rfl, .inl (SqL.of (s47 _ _ hL4)), rfl, _, rfl, iteNS (by rw [hlen7]) ?_⟩
  -- the facts from here on
  have hsm := sm_of W
  have hW := W.small
  obtain ⟨n1, n2⟩ := ord_ok (P := Pn) W.od (ds L).length
  have hrunS : ∀ d ∈ (run Sn (rowsOf Pn (ds L)) (ds L).length).ord, Sm d := fun d hd => hsm d (n2 d hd)
  have hrunL : (run Sn (rowsOf Pn (ds L)) (ds L).length).ord.length ≤ 192 := by
    rw [run_len W.p0 W.od _ (Nat.le_refl _)]
    exact hW
  obtain ⟨o1, o2, o3, o4⟩ := ddL_ok hrunS hrunL
  have x7 := s7 _ _ hx6
  have R7 := R6.same s7
  have hL7 := s47 _ _ hL4
  have hA47 := hA4.same s47
  -- for again in range(2)
  refine ⟨2, rfl, by decide, by decide, for_range (lo := 0) (n := 2)
    (fun i σ H8 => ∃ x9 x10 x11 : Option V, σ = [some (.ref a), some (.ref hp), some (.int Pn), some (.int Sn), some (.int Nn), some (.ref ol), some (.ref r), some (.ref x), some (.ref due), x9, x10, x11] ∧ Same H7 H8)
    ⟨none, none, none, rfl, Same.refl _⟩ ?_ ?_⟩
  · rintro i σ H8 hi ⟨x9, x10, x11, rfl, s8⟩
    -- repr(some_order(..)) != repr(tuple(due))
    refine ⟨_, rfl, rfl, rfl, x, dx, r', LL', Pn, Sn, Nn, ds L, rfl, s8 _ _ x7, R7.same s8, eR6, W, fun H9 p9 L9 s9 hp9 hA9 eL9 => ?_⟩
    refine ⟨p9, _, rfl, eL9 ▸ dp_deeds hp9 hA9, o1, o2, o3, o4, ?_⟩
    refine ⟨_, rfl, due, rf L7, rfl, .inl ⟨SqL.of (s9 _ _ (s8 _ _ hdue)), fun t10 ht10 => ?_⟩⟩
    have s10 : Same H9 (upd H9 t10 (.tup (rf L7))) := Same.upd_new ht10
    refine ⟨t10, _, rfl, eL7 ▸ dp_deeds upd_same (((hA7.same s8).same s9).same s10), o1, o2, o3, o4, rfl, _, rfl, iteNS rfl ?_⟩
    have s11 := (s8.trans s9).trans s10
    -- for deed in order
    refine ⟨_, rfl, ol, rfl, ⟨_, SqL.of (s11 _ _ hL7)⟩, for_list (K := K) (a := ol) (xs := rf L)
      (fun j σ H12 => ∃ x10 x11 : Option V, σ = [some (.ref a), some (.ref hp), some (.int Pn), some (.int Sn), some (.int Nn), some (.ref ol), some (.ref r), some (.ref x), some (.ref due), some (.int (0 + (i : Int))), x10, x11] ∧ Same H7 H12)
      ⟨x10, x11, rfl, s11⟩ (fun j σ H12 _ ⟨_, _, _, s12⟩ => SqL.of (s12 _ _ hL7)) ?_ ?_⟩
    · rintro j y σ H12 hy ⟨y10, y11, rfl, s12⟩
      obtain ⟨d, hd, rfl⟩ := of_rf hy
      have hdm : d.2 ∈ ds L := List.mem_of_getElem? (ds_at hd)
      have hAd : H12 d.1 = some (.tup (dv d.2)) := s12 _ _ (hA47.get hd)
      have hneed : ∀ n ∈ needD Sn d.2, Sm n := fun n hn => by
        obtain ⟨e1, e2, _⟩ := need_pos (W.od.st _ hdm) hn
        have h1 := (hsm _ hdm).1
        have h2 := W.sz.s12
        exact ⟨by omega, by omega⟩
      have hneedL : (needD Sn d.2).length ≤ 192 := by
        have : (needD Sn d.2).length ≤ 2 := by
          unfold needD
          split <;> split <;> simp
        omega
      obtain ⟨m1, m2, m3, m4⟩ := ddL_ok hneed hneedL
      -- passed = [deed, list(deed)][int(again)]
      refine ⟨_, rfl, _, rfl, d.1, dv d.2, rfl, .inr (SqT.of hAd), fun l13 hl13 => ⟨(by show 2 ≤ sizeLine; decide), fun q13 hq13 => ⟨_, rfl, .inl ⟨_, rfl, ?_⟩⟩⟩⟩
      have s13 := Same.upd_new (o := HO.lst (dv d.2)) hl13
      have s14 := Same.upd_new (o := HO.lst [V.ref d.1, V.ref l13]) hq13
      have s15 := (s12.trans s13).trans s14
      have hl15 := s14 _ _ (upd_same (H := H12) (a := l13) (o := .lst (dv d.2)))
      have hAd15 := s14 _ _ (s13 _ _ hAd)
      -- which of the two
      obtain ⟨b, hb, hat⟩ : ∃ b : Addr, (upd (upd H12 l13 (.lst (dv d.2))) q13 (.lst [.ref d.1, .ref l13]) b = some (.tup (dv d.2)) ∨ upd (upd H12 l13 (.lst (dv d.2))) q13 (.lst [.ref d.1, .ref l13]) b = some (.lst (dv d.2))) ∧
          atI [V.ref d.1, V.ref l13] (0 + (i : Int)) = some (.ref b) := by
        rcases (show i = 0 ∨ i = 1 by omega) with rfl | rfl
        · exact ⟨d.1, .inl hAd15, at_of (j := 0) (by omega) rfl⟩
        · exact ⟨l13, .inr hl15, at_of (j := 1) (by omega) rfl⟩
      refine ⟨q13, _, _, _, rfl, rfl, SqL.of upd_same, hat, ?_⟩
      -- repr(needs(..)) != repr(tuple(sorted(needed(..))))
      refine ⟨_, rfl, _, rfl, rfl, rfl, x, dx, b, r', Pn, Sn, Nn, d.2, rfl, s15 _ _ x7, hb, fun H16 p16 L16 s16 hp16 hA16 eL16 => ?_⟩
      refine ⟨p16, _, rfl, eL16 ▸ dp_deeds hp16 hA16, m1, m2, m3, m4, ?_⟩
      refine ⟨_, rfl, _, rfl, d.1, d.2, Sn, rfl, s16 _ _ hAd15, fun H18 p18 L18 s18 hp18 hA18 eL18 => ?_⟩
      have e1 : ((L18.map fun p => (p.1, dd p.2)).map fun z : Addr × PyData => V.ref z.1) = rf L18 := by
        unfold rf
        rw [List.map_map]
        rfl
      have e2 : ((L18.map fun p => (p.1, dd p.2)).map fun z : Addr × PyData => z.2) = (ds L18).map dd := by
        unfold ds
        rw [List.map_map, List.map_map]
        rfl
      refine ⟨p18, L18.map fun p => (p.1, dd p.2), rfl, by rw [e1]; exact SqL.of hp18, fun z hz => ?_, by rw [e2]; exact dd_allAlike _, by rw [e2]; exact dd_sortable _, need_sorted Sn d.2 L18 eL18, fun p19 hp19 => ?_⟩
      · obtain ⟨z0, hz0, rfl⟩ := List.mem_map.mp hz
        exact ⟨dp_deed (hA18 z0 hz0), by show (dd z0.2).depth ≤ 32; rw [dd_depth]; decide⟩
      rw [e1]
      have s19 := Same.upd_new (o := HO.lst (rf L18)) hp19
      refine ⟨p19, _, rfl, .inl ⟨SqL.of upd_same, fun p20 hp20 => ?_⟩⟩
      have s20 := Same.upd_new (o := HO.tup (rf L18)) hp20
      refine ⟨p20, _, rfl, eL18 ▸ dp_deeds upd_same ((hA18.same s19).same s20), m1, m2, m3, m4, rfl, _, rfl, iteNS rfl ?_⟩
      exact ⟨_, _, rfl, (((s15.trans s16).trans s18).trans s19).trans s20⟩
    · rintro σ H12 ⟨y10, y11, rfl, s12⟩
      exact ⟨_, _, _, rfl, s12⟩
  · rintro σ H8 ⟨x9, x10, x11, rfl, s8⟩
    have hRD : ∀ l ∈ rowsOf Pn (ds L), ∀ d ∈ l, Sm d := fun l hl d hd => by
      obtain ⟨m, _, rfl⟩ := List.mem_map.mp hl
      exact hsm d (List.mem_filter.mp hd).1
    have hRL : ∀ l ∈ rowsOf Pn (ds L), l.length ≤ 192 := fun l hl => by
      obtain ⟨m, _, rfl⟩ := List.mem_map.mp hl
      have := List.length_filter_le (onM Pn m) (ds L)
      omega
    obtain ⟨q1, q2, q3, q4⟩ := ddR_ok hRD hRL (by rw [rowsOf_len]; exact W.sz.p4)
    refine ⟨_, rfl, x, C, dx, _, _, rfl, s8 _ _ x7, TK.cl, TK.nR, sf_rows Pn Sn Nn r', r', _, rfl, eR6 ▸ dp_rows (R7.same s8), q1, q2, q3, q4, ?_⟩
    refine ⟨_, rfl, r, _, rfl, eR ▸ dp_rows ((R.same s47).same s8), q1, q2, q3, q4, rfl, ?_⟩
    show Q (.bl (decide (V.str (ddR (rowsOf Pn (ds L))).shown = V.str (ddR (rowsOf Pn (ds L))).shown))) H8
    rw [decide_eq_true rfl]
    exact k H8
end
end K14
/-! ## K14Fin -/
namespace K14
open PySem L2 PySem.Spec PyProof.Rows

/-- a def of the top, as the head finds it -/
def FnAt (K : PySem.W.Frag) (x : Str) (st : Stmt) : Prop := ∃ (f : Addr) (fd : FuncData), Fun K x x st f fd ∧ PySem.W.nsIn K mainGlobals x = some (some (.ref f))
theorem FnAt.mk {K : PySem.W.Frag} {x : Str} {st : Stmt} {f : Addr} {oc kV doc pm cdv ct : Value} {od an : Option Addr} {osl : Array (Option Value)} (a : PySem.W.nsIn K mainGlobals x = some (some (.ref f)))
    (l : K.lookup f = some ⟨oc, od, .func (PySem.W.fnOf x x (defArgs st) (defBody st) (defScope st) .none kV doc pm an cdv ct), osl⟩) (c : PySem.W.codeIn K cdv x = true) (k : PySem.W.keepIn K (.ref f) = true) : FnAt K x st :=
  ⟨f, _, fun_mk l c k, a⟩
/-- the class Schedule, as the head finds it -/
def ClsAt (K : PySem.W.Frag) (C : Addr) : Prop := TC K C ∧ PySem.W.nsIn K mainGlobals "Schedule" = some (some (.ref C)) ∧ ∃ (f : Addr) (fd : FuncData), Mk K C f ∧ Fun K "__init__" "Schedule.__init__" sInit f fd
theorem ClsAt.mk {K : PySem.W.Frag} {C f : Addr} {oc kV doc pm cdv ct : Value} {od an : Option Addr} {osl : Array (Option Value)} (aC : PySem.W.nsIn K mainGlobals "Schedule" = some (some (.ref C)))
    (a : PySem.W.findIn K (.ref C) "__init__" = some (some (.ref f))) (i : PySem.W.isFn K (.ref f) = true)
    (l : K.lookup f = some ⟨oc, od, .func (PySem.W.fnOf "__init__" "Schedule.__init__" (defArgs sInit) (defBody sInit) (defScope sInit) .none kV doc pm an cdv ct), osl⟩) (c : PySem.W.codeIn K cdv "Schedule.__init__" = true) (k : PySem.W.keepIn K (.ref f) = true)
    (pg : PySem.W.plainGet K C Str.empty = true) (hd : PySem.W.hasDictIn K C = true) (po : PySem.W.plainOver K C = true) (sa : PySem.W.findIn K (.ref C) "__setattr__" = some (some (.builtin "object.__setattr__"))) (mk : PySem.W.makesIn K C = true) (kc : PySem.W.keepIn K (.ref C) = true)
    (n1 : PySem.W.findIn K (.ref C) "machines" = some none) (n2 : PySem.W.findIn K (.ref C) "stages" = some none) (n3 : PySem.W.findIn K (.ref C) "portions" = some none) (n4 : PySem.W.findIn K (.ref C) "rows" = some none) : ClsAt K C :=
  ⟨⟨⟨pg, hd, po, sa⟩, n1, n2, n3, n4⟩, aC, f, _, ⟨mk, a, i, kc⟩, fun_mk l c k⟩
section
variable {P : Program} {w : World} {K : PySem.W.Frag} {mg : Str → Option Value} {base h : Heap}
theorem FnAt.def_ {x : Str} {st : Stmt} {k : Nat} {ps : List Str} {sp : Sp} (FA : FnAt K x st) (X : K.In h) (G : h.Ns mainGlobals mg) (ok : ∀ f fd, Fun K x x st f fd → FnOk P w K mg base CX0 k f fd ps sp)
    (b : ∀ (kV doc pm : Value) (an : Option Addr) (cdv ct : Value) (us : List Value), us.length = ps.length → bindArgs (PySem.W.fnOf x x (defArgs st) (defBody st) (defScope st) .none kV doc pm an cdv ct) ⟨us, []⟩ = pure (ps.zip us)) : Def P w K mg base x k ps sp := by
  obtain ⟨f, fd, F, a⟩ := FA
  exact ⟨f, fd, ok f fd F, PySem.W.mg_of X G a, F.kp, F.binds b⟩
theorem FnAt.defN {x : Str} {st : Stmt} {k : Nat} {ps : List Str} {sp : Sp} (FA : FnAt K x st) (X : K.In h) (G : h.Ns mainGlobals mg) (ok : ∀ f fd, Fun K x x st f fd → FnOk P w K mg base CX0 k f fd ps sp)
    (b : ∀ (kV doc pm : Value) (an : Option Addr) (cdv ct : Value) (ws : List Value), ws.length = ps.length → bindArgs (PySem.W.fnOf x x (defArgs st) (defBody st) (defScope st) .none kV doc pm an cdv ct) ⟨[], ps.zip ws⟩ = pure (ps.zip ws)) : DefN P w K mg base x k ps sp := by
  obtain ⟨f, fd, F, a⟩ := FA
  exact ⟨f, fd, ok f fd F, PySem.W.mg_of X G a, F.kp, kbn_of F b⟩
end
/-- the law's call, from what the top has written -/
theorem all_mk {P : Program} {w : World} {K : PySem.W.Frag} {h : Heap} {mg : Str → Option Value} {fa C : Addr} {t1 t2 t3 : Tok} (X : K.In h) (G : h.Ns mainGlobals mg) (hfa : mg "law" = some (.ref fa))
    (b1 : PySem.W.nsIn K mainGlobals "isinstance" = some none) (b2 : PySem.W.nsIn K mainGlobals "int" = some none) (b3 : PySem.W.nsIn K mainGlobals "bool" = some none) (b4 : PySem.W.nsIn K mainGlobals "list" = some none)
    (b5 : PySem.W.nsIn K mainGlobals "tuple" = some none) (b6 : PySem.W.nsIn K mainGlobals "str" = some none) (b7 : PySem.W.nsIn K mainGlobals "len" = some none) (b8 : PySem.W.nsIn K mainGlobals "enumerate" = some none)
    (b9 : PySem.W.nsIn K mainGlobals "all" = some none) (b10 : PySem.W.nsIn K mainGlobals "range" = some none) (b11 : PySem.W.nsIn K mainGlobals "abs" = some none) (b12 : PySem.W.nsIn K mainGlobals "max" = some none)
    (b13 : PySem.W.nsIn K mainGlobals "min" = some none) (b14 : PySem.W.nsIn K mainGlobals "sum" = some none) (b15 : PySem.W.nsIn K mainGlobals "repr" = some none) (b16 : PySem.W.nsIn K mainGlobals "sorted" = some none)
    (c1 : PySem.W.nsIn K mainGlobals "MOST_MACHINES" = some (some (.int 4 t1))) (c2 : PySem.W.nsIn K mainGlobals "MOST_STAGES" = some (some (.int 12 t2))) (c3 : PySem.W.nsIn K mainGlobals "MOST_PORTIONS" = some (some (.int 8 t3)))
    (f1 : FnAt K "is_between" sBetween) (f2 : FnAt K "is_row" sRow) (f3 : FnAt K "check_sizes" sSizes) (f4 : FnAt K "is_deed" sDeed) (f5 : FnAt K "needed" sNeeded) (f6 : FnAt K "are_rows" sAreRows) (f7 : FnAt K "orderly" sOrderly)
    (f8 : FnAt K "needs" sNeeds) (f9 : FnAt K "some_order" sSome) (g1 : FnAt K "_law_draws" lDraws) (g2 : FnAt K "_law_take" lTake) (g3 : FnAt K "_law_needed" lNeeded) (g4 : FnAt K "_law_sizes" lSizes) (g5 : FnAt K "_law_drawn_order" lDrawn)
    (g6 : FnAt K "_law_rows" lRows) (g7 : FnAt K "_law_ordered" lOrdered) (g8 : FnAt K "law" lLaw) (cl : ClsAt K C) : CallsAt P w K mg fa (spLaw K) := by
  intro base _ _ s H a Q e0 hsp
  have T : Tx mg := ⟨PySem.W.mg_none_of X G b1, PySem.W.mg_none_of X G b2, PySem.W.mg_none_of X G b3, PySem.W.mg_none_of X G b4, PySem.W.mg_none_of X G b5, PySem.W.mg_none_of X G b6, PySem.W.mg_none_of X G b7, PySem.W.mg_none_of X G b8,
    PySem.W.mg_none_of X G b9, PySem.W.mg_none_of X G b10, PySem.W.mg_none_of X G b11, PySem.W.mg_none_of X G b12, PySem.W.mg_none_of X G b13, PySem.W.mg_none_of X G b14, PySem.W.mg_none_of X G b15, PySem.W.mg_none_of X G b16,
    ⟨t1, PySem.W.mg_of X G c1⟩, ⟨t2, PySem.W.mg_of X G c2⟩, ⟨t3, PySem.W.mg_of X G c3⟩⟩
  obtain ⟨TK, aC, fI, fdI, M, FI⟩ := cl
  have DB : Def P w K mg base "is_between" 1 ["value", "least", "most"] spBetween := f1.def_ X G (fun f fd F => ok_between F T) fun _ _ _ _ _ _ us hl => match us, hl with | [_, _, _], _ => rfl
  have DR : Def P w K mg base "is_row" 1 ["value"] spRow := f2.def_ X G (fun f fd F => ok_row F T) fun _ _ _ _ _ _ us hl => match us, hl with | [_], _ => rfl
  have DZ : Def P w K mg base "check_sizes" 2 ["machines", "stages", "portions"] spSizes := f3.def_ X G (fun f fd F => ok_sizes F T DB) fun _ _ _ _ _ _ us hl => match us, hl with | [_, _, _], _ => rfl
  have DD : Def P w K mg base "is_deed" 2 ["value", "stages", "portions"] spDeed := f4.def_ X G (fun f fd F => ok_deed F T DR DB) fun _ _ _ _ _ _ us hl => match us, hl with | [_, _, _], _ => rfl
  have DN : Def P w K mg base "needed" 1 ["deed", "stages"] spNeeded := f5.def_ X G (fun f fd F => ok_needed F) fun _ _ _ _ _ _ us hl => match us, hl with | [_, _], _ => rfl
  have DA : Def P w K mg base "are_rows" 3 ["rows", "machines", "stages", "portions"] spAreRows := f6.def_ X G (fun f fd F => ok_areRows F T DR DD) fun _ _ _ _ _ _ us hl => match us, hl with | [_, _, _, _], _ => rfl
  have DO : Def P w K mg base "orderly" 2 ["rows", "stages"] spOrderly := f7.def_ X G (fun f fd F => ok_orderly F T DN) fun _ _ _ _ _ _ us hl => match us, hl with | [_, _], _ => rfl
  have DT : Def P w K mg base "_law_take" 1 ["_law_hand", "_law_many"] spTake := g2.def_ X G (fun f fd F => ok_take F T) fun _ _ _ _ _ _ us hl => match us, hl with | [_, _], _ => rfl
  have LN : Def P w K mg base "_law_needed" 1 ["_law_deed", "_law_stages"] spLNeeded := g3.def_ X G (fun f fd F => ok_lneeded F T) fun _ _ _ _ _ _ us hl => match us, hl with | [_, _], _ => rfl
  have bI : Binds K fdI ["self", "machines", "stages", "portions", "rows"] [] := FI.binds fun _ _ _ _ _ _ us hl => match us, hl with | [_, _, _, _, _], _ => rfl
  have D : All P w K mg base C := {
    draws := g1.def_ X G (fun f fd F => ok_draws F T) fun _ _ _ _ _ _ us hl => match us, hl with | [_, _], _ => rfl
    sizes := g4.def_ X G (fun f fd F => ok_lsizes F T DT) fun _ _ _ _ _ _ us hl => match us, hl with | [_, _], _ => rfl
    drawn := g5.def_ X G (fun f fd F => ok_drawn F T DT) fun _ _ _ _ _ _ us hl => match us, hl with | [_, _, _], _ => rfl
    rows := g6.def_ X G (fun f fd F => ok_lrows F T) fun _ _ _ _ _ _ us hl => match us, hl with | [_, _], _ => rfl
    ordered := g7.def_ X G (fun f fd F => ok_lordered F T LN) fun _ _ _ _ _ _ us hl => match us, hl with | [_, _], _ => rfl
    needed := LN
    sched := ⟨fI, fdI, M, ok_init FI T TK DZ DA DO, PySem.W.mg_of X G aC, bI⟩
    some_ := f9.defN X G (fun f fd F => ok_some F T TK DO) fun _ _ _ _ _ _ us hl => match us, hl with | [_], _ => rfl
    needs := f8.defN X G (fun f fd F => ok_needs F T TK DN) fun _ _ _ _ _ _ us hl => match us, hl with | [_, _], _ => rfl }
  obtain ⟨fL, fdL, FL, aL⟩ := g8
  have e : fa = fL := by
    have q := hfa.symm.trans (PySem.W.mg_of X G aL)
    injection q with q
    injection q
  subst e
  refine lawRun (k := 5) FL scLaw law_len (fun cdv A outer s H vs Q E hg hr h => body_law T TK D hg hr h) (us := [.ref a]) (vs := [.ref a]) rfl ⟨rfl, by decide, by decide⟩ e0 ?_ (.cons rfl .nil) hsp
  obtain ⟨oc, od, kV, doc, pm, an, cdv, ct, osl, rfl, lk, hcd⟩ := FL.ex
  exact .of_eq rfl
end K14
/-! ## K14Top -/
open PySem PySem.W PyProof.Rows
set_option maxRecDepth 100000 in
set_option maxHeartbeats 0 in
theorem PySem.Challenge.cw_stagesfull_k14_needs_and_orders_holds : PySem.Challenge.rw_stagesfull_k14_needs_and_orders.Holds := by
  w_on; o_law; k_head; (case hw => w_witness2)
  k_fill
  refine K14.walkAt (l := PySem.Challenge.rw_stagesfull_k14_needs_and_orders) (n := 63) (sp := K14.spLaw) rfl (by decide) rfl (fun w h Y => PySem.W.kIn_of Y) ?F (fun K H a ns hl _ hS => ⟨a, ns, rfl, hS, hl, fun _ => rfl⟩)
  case F =>
    intro w mg fa h KX G hmg
    refine' K14.all_mk KX G hmg ?b1 ?b2 ?b3 ?b4 ?b5 ?b6 ?b7 ?b8 ?b9 ?b10 ?b11 ?b12 ?b13 ?b14 ?b15 ?b16 ?c1 ?c2 ?c3 ?f1 ?f2 ?f3 ?f4 ?f5 ?f6 ?f7 ?f8 ?f9 ?g1 ?g2 ?g3 ?g4 ?g5 ?g6 ?g7 ?g8 ?cl
    (case b1 => k_is)
    (case b2 => k_is)
    (case b3 => k_is)
    (case b4 => k_is)
    (case b5 => k_is)
    (case b6 => k_is)
    (case b7 => k_is)
    (case b8 => k_is)
    (case b9 => k_is)
    (case b10 => k_is)
    (case b11 => k_is)
    (case b12 => k_is)
    (case b13 => k_is)
    (case b14 => k_is)
    (case b15 => k_is)
    (case b16 => k_is)
    (case c1 => k_is)
    (case c2 => k_is)
    (case c3 => k_is)
    (case f1 => (refine' K14.FnAt.mk ?a ?l ?c ?k; (case a => k_is); (case l => k_is); (case c => k_is); (case k => k_is)))
    (case f2 => (refine' K14.FnAt.mk ?a ?l ?c ?k; (case a => k_is); (case l => k_is); (case c => k_is); (case k => k_is)))
    (case f3 => (refine' K14.FnAt.mk ?a ?l ?c ?k; (case a => k_is); (case l => k_is); (case c => k_is); (case k => k_is)))
    (case f4 => (refine' K14.FnAt.mk ?a ?l ?c ?k; (case a => k_is); (case l => k_is); (case c => k_is); (case k => k_is)))
    (case f5 => (refine' K14.FnAt.mk ?a ?l ?c ?k; (case a => k_is); (case l => k_is); (case c => k_is); (case k => k_is)))
    (case f6 => (refine' K14.FnAt.mk ?a ?l ?c ?k; (case a => k_is); (case l => k_is); (case c => k_is); (case k => k_is)))
    (case f7 => (refine' K14.FnAt.mk ?a ?l ?c ?k; (case a => k_is); (case l => k_is); (case c => k_is); (case k => k_is)))
    (case f8 => (refine' K14.FnAt.mk ?a ?l ?c ?k; (case a => k_is); (case l => k_is); (case c => k_is); (case k => k_is)))
    (case f9 => (refine' K14.FnAt.mk ?a ?l ?c ?k; (case a => k_is); (case l => k_is); (case c => k_is); (case k => k_is)))
    (case g1 => (refine' K14.FnAt.mk ?a ?l ?c ?k; (case a => k_is); (case l => k_is); (case c => k_is); (case k => k_is)))
    (case g2 => (refine' K14.FnAt.mk ?a ?l ?c ?k; (case a => k_is); (case l => k_is); (case c => k_is); (case k => k_is)))
    (case g3 => (refine' K14.FnAt.mk ?a ?l ?c ?k; (case a => k_is); (case l => k_is); (case c => k_is); (case k => k_is)))
    (case g4 => (refine' K14.FnAt.mk ?a ?l ?c ?k; (case a => k_is); (case l => k_is); (case c => k_is); (case k => k_is)))
    (case g5 => (refine' K14.FnAt.mk ?a ?l ?c ?k; (case a => k_is); (case l => k_is); (case c => k_is); (case k => k_is)))
    (case g6 => (refine' K14.FnAt.mk ?a ?l ?c ?k; (case a => k_is); (case l => k_is); (case c => k_is); (case k => k_is)))
    (case g7 => (refine' K14.FnAt.mk ?a ?l ?c ?k; (case a => k_is); (case l => k_is); (case c => k_is); (case k => k_is)))
    (case g8 => (refine' K14.FnAt.mk ?a ?l ?c ?k; (case a => k_is); (case l => k_is); (case c => k_is); (case k => k_is)))
    (case cl => (refine' K14.ClsAt.mk ?aC ?a ?i ?l ?c ?k ?pg ?hd ?po ?sa ?mk ?kc ?n1 ?n2 ?n3 ?n4; (case aC => k_is); (case a => k_is); (case i => k_is); (case l => k_is); (case c => k_is); (case k => k_is); (case pg => k_is); (case hd => k_is); (case po => k_is); (case sa => k_is); (case mk => k_is); (case kc => k_is); (case n1 => k_is); (case n2 => k_is); (case n3 => k_is); (case n4 => k_is)))
#print axioms PySem.Challenge.cw_stagesfull_k14_needs_and_orders_holds
