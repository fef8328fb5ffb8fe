import PyProof.Rows.All
import Wide.All
import OpenK.AllK
import Wide.FinOn
import HandS.ForMost
import HandS.More
import HandS.NoneIn
import HandS.SetKeys
import HandS.DictComp
import HandS.Walk
import HandS.Flow
import HandS.IsInst
import KE.SortData
import KE.GoesEnum
import HandS.OwnEq
import PyProof.InstEq
import HandS.Keys
import HandS.Nested
import HandS.SortKw
import KE.SortKeyHeap
import KE.KSortKey
import HandS.Lambda
import HandS.Defaults
import HandS.HeadHook1
import HandS.HeadHook2
import HandS.HeadHook3
import HandS.HeadHook4
import HandS.CallRecv
import HandS.Wide
import HandS.Conv
import HandS.ClsMeth
import PySem.Challenge.RW_forestrows_k22_whole_pair_rows_judged
import HandS.Style
import HandS.Deep
import HandS.Head0
import HandS.Head1
import HandS.Head2
import HandS.HeadEnd
import HandS.HeadWalk
section
set_option linter.all false
/-! Plain Lean: rows, what the law asks of them, what the judge says of them, and that both are one. -/
namespace FR
structure Row (N : Type) where
  a : N
  b : N
  s : Int
  k : Int
  v : Int

section
variable {N : Type} [DecidableEq N]
abbrev Rows (N : Type) := List (Row N)

/-- the upper names of the rows with one step to n -/
def ups (rs : Rows N) (n : N) : List N := (rs.filter fun r => decide (r.b = n) && decide (r.s = 1)).map (·.a)
def parent (rs : Rows N) (n : N) : Option N := (ups rs n).head?
def has (rs : Rows N) (a b : N) (s : Int) : Bool := rs.any fun r => decide (r.a = a) && decide (r.b = b) && decide (r.s = s)
/-- the rows of names with themselves whose names have the same parent, with their places -/
def sibs (rs : Rows N) (p : Option N) : List (Row N × Nat) := rs.zipIdx.filter fun q => decide (q.1.s = 0) && decide (parent rs q.1.a = p)

def lawSelf (rs : Rows N) (r : Row N) : Bool := !has rs r.a r.a 0 || !has rs r.b r.b 0
def lawLine (rs : Rows N) (i : Nat) (r : Row N) : Bool :=
  if r.s = 1 then (rs.take i).any fun q => decide (q.b = r.b) && decide (q.s = 1)
  else if r.s = 0 then false else !((ups rs r.b).any fun n => has rs r.a n (r.s - 1))
def lawGap (rs : Rows N) (r : Row N) : Bool := (ups rs r.a).any fun n => !has rs n r.b (r.s + 1)
def lawRanks (rs : Rows N) (i : Nat) (r : Row N) : Bool := (rs.take i).any fun q => decide (q.a = r.a) && !decide (q.k = r.k)
def lawValues (rs : Rows N) (i : Nat) (r : Row N) : Bool := (rs.take i).any fun q => decide (q.b = r.b) && !decide (q.v = r.v)
def lawOrder (rs : Rows N) (i : Nat) (r : Row N) : Bool :=
  if r.s = 0 then decide (((sibs rs (parent rs r.a)).length : Int) ≤ r.k) || (sibs rs (parent rs r.a)).any fun q => decide (q.2 < i) && decide (q.1.k = r.k)
  else false
def lawWrong (w : Nat) (rs : Rows N) (i : Nat) (r : Row N) : Bool :=
  if w = 0 then lawSelf rs r else if w = 1 then lawLine rs i r else if w = 2 then lawGap rs r else if w = 3 then lawRanks rs i r else if w = 4 then lawValues rs i r else lawOrder rs i r

/-! the judge -/
def stepOf (rs : Rows N) (a b : N) : Option Int := (rs.find? fun r => decide (r.a = a) && decide (r.b = b)).map (·.s)
def rankOf (rs : Rows N) (a : N) : Option Int := (rs.find? fun r => decide (r.a = a)).map (·.k)
def valueOf (rs : Rows N) (b : N) : Option Int := (rs.find? fun r => decide (r.b = b)).map (·.v)
/-- the place of a name's row with itself -/
def spot (rs : Rows N) (n : N) : Option Nat := rs.findIdx? fun r => decide (r.a = n) && decide (r.s = 0)
def jSelf (rs : Rows N) (r : Row N) : Bool := (stepOf rs r.a r.a).isNone || (stepOf rs r.b r.b).isNone
def jLine (rs : Rows N) (r : Row N) : Bool :=
  if r.s = 1 then !decide (parent rs r.b = some r.a)
  else if r.s = 0 then false else !((ups rs r.b).any fun n => decide ((stepOf rs r.a n).getD (-1) = r.s - 1))
def jGap (rs : Rows N) (r : Row N) : Bool := (ups rs r.a).any fun n => !decide ((stepOf rs n r.b).getD (-1) = r.s + 1)
def jRanks (rs : Rows N) (r : Row N) : Bool := !decide (some r.k = rankOf rs r.a)
def jValues (rs : Rows N) (r : Row N) : Bool := !decide (some r.v = valueOf rs r.b)
def jsibs (rs : Rows N) (p : Option N) : Rows N := (rs.filter fun q => decide (q.s = 0)).filter fun q => decide (parent rs q.a = p)
def jOrder (rs : Rows N) (i : Nat) (r : Row N) : Bool :=
  if r.s = 0 then decide (((jsibs rs (parent rs r.a)).length : Int) ≤ r.k) || (jsibs rs (parent rs r.a)).any fun q => decide (q.k = r.k) && decide ((spot rs q.a).getD 0 < i)
  else false
def jWrong (w : Nat) (rs : Rows N) (i : Nat) (r : Row N) : Bool :=
  if w = 0 then jSelf rs r else if w = 1 then jLine rs r else if w = 2 then jGap rs r else if w = 3 then jRanks rs r else if w = 4 then jValues rs r else jOrder rs i r

/-- the first place of which f is true -/
def firstAt (f : Nat → Row N → Bool) (rs : Rows N) : Option Nat := (List.range rs.length).find? fun i => (rs[i]?.map (f i)).getD false
def firstOf (g : Nat → Nat → Row N → Bool) (rs : Rows N) : Option (Nat × Nat) := (List.range 6).findSome? fun w => (firstAt (g w) rs).map fun p => (p, w)
def due (rs : Rows N) : Option (Nat × Nat) := firstOf (fun w => lawWrong w rs) rs
def judged (rs : Rows N) : Option (Nat × Nat) := firstOf (fun w => jWrong w rs) rs

/-- what each row is by itself, and that no two have the same names -/
structure Ok (rs : Rows N) : Prop where
  one : ∀ i j : Nat, ∀ r q, rs[i]? = some r → rs[j]? = some q → r.a = q.a → r.b = q.b → i = j
  s0 : ∀ r ∈ rs, 0 ≤ r.s
  k0 : ∀ r ∈ rs, 0 ≤ r.k
  eq : ∀ r ∈ rs, r.s = 0 ↔ r.a = r.b

theorem Ok.same {rs : Rows N} (o : Ok rs) {r q : Row N} (hr : r ∈ rs) (hq : q ∈ rs) (h1 : r.a = q.a) (h2 : r.b = q.b) : r = q := by
  obtain ⟨i, hi⟩ := List.mem_iff_getElem?.mp hr
  obtain ⟨j, hj⟩ := List.mem_iff_getElem?.mp hq
  have e := o.one i j r q hi hj h1 h2
  subst e
  rw [hi] at hj
  exact Option.some.inj hj

theorem stepOf_some {rs : Rows N} (o : Ok rs) {r : Row N} (hr : r ∈ rs) : stepOf rs r.a r.b = some r.s := by
  unfold stepOf
  cases h : rs.find? (fun q => decide (q.a = r.a) && decide (q.b = r.b)) with
  | none =>
    have := List.find?_eq_none.mp h r hr
    simp at this
  | some q =>
    have h1 := List.find?_some h
    have h2 := List.mem_of_find?_eq_some h
    simp at h1
    rw [o.same h2 hr h1.1 h1.2]
    rfl
theorem stepOf_mem {rs : Rows N} {a b : N} {s : Int} (h : stepOf rs a b = some s) : ∃ r ∈ rs, r.a = a ∧ r.b = b ∧ r.s = s := by
  unfold stepOf at h
  cases e : rs.find? (fun q => decide (q.a = a) && decide (q.b = b)) with
  | none => rw [e] at h; cases h
  | some q =>
    have h1 := List.find?_some e
    have h2 := List.mem_of_find?_eq_some e
    simp at h1
    rw [e] at h
    exact ⟨q, h2, h1.1, h1.2, Option.some.inj h⟩
theorem has_iff {rs : Rows N} {a b : N} {s : Int} : has rs a b s = true ↔ ∃ r ∈ rs, r.a = a ∧ r.b = b ∧ r.s = s := by
  unfold has
  simp [List.any_eq_true, and_assoc]
theorem has_step {rs : Rows N} (o : Ok rs) (a b : N) (s : Int) : has rs a b s = decide (stepOf rs a b = some s) := by
  rw [Bool.eq_iff_iff, has_iff, decide_eq_true_iff]
  constructor
  · rintro ⟨r, hr, rfl, rfl, rfl⟩
    exact stepOf_some o hr
  · exact stepOf_mem
theorem mem_ups {rs : Rows N} {n p : N} : p ∈ ups rs n ↔ ∃ r ∈ rs, r.a = p ∧ r.b = n ∧ r.s = 1 := by
  unfold ups
  simp only [List.mem_map, List.mem_filter, Bool.and_eq_true, decide_eq_true_eq]
  constructor
  · rintro ⟨r, ⟨h1, h2, h3⟩, h4⟩; exact ⟨r, h1, h4, h2, h3⟩
  · rintro ⟨r, h1, h4, h2, h3⟩; exact ⟨r, ⟨h1, h2, h3⟩, h4⟩

theorem self_eq {rs : Rows N} (o : Ok rs) (r : Row N) : jSelf rs r = lawSelf rs r := by
  have key : ∀ n : N, (stepOf rs n n).isNone = !has rs n n 0 := fun n => by
    rw [has_step o]
    cases e : stepOf rs n n with
    | none => simp
    | some s =>
      obtain ⟨q, hq, h1, h2, h3⟩ := stepOf_mem e
      have : s = 0 := by
        rw [← h3]
        exact (o.eq q hq).mpr (h1.trans h2.symm)
      simp [this]
  unfold jSelf lawSelf
  rw [key, key]

theorem parent_first {rs : Rows N} (o : Ok rs) {i : Nat} {r : Row N} (hi : rs[i]? = some r) (hs : r.s = 1) :
    (!decide (parent rs r.b = some r.a)) = (rs.take i).any fun q => decide (q.b = r.b) && decide (q.s = 1) := by
  have el : rs = rs.take i ++ r :: rs.drop (i + 1) := by
    obtain ⟨h1, h2⟩ := List.getElem?_eq_some_iff.mp hi
    conv => lhs; rw [← List.take_append_drop i rs]
    rw [List.drop_eq_getElem_cons h1, h2]
  have eu : ups rs r.b = ups (rs.take i) r.b ++ r.a :: ups (rs.drop (i + 1)) r.b := by
    conv => lhs; rw [el]
    unfold ups
    rw [List.filter_append, List.map_append, List.filter_cons_of_pos (by simp [hs]), List.map_cons]
  have ep : parent rs r.b = ((ups (rs.take i) r.b).head?.or (some r.a)) := by
    unfold parent
    rw [eu, List.head?_append]
    rfl
  rw [ep, Bool.eq_iff_iff]
  simp only [Bool.not_eq_true', decide_eq_false_iff_not, List.any_eq_true, Bool.and_eq_true, decide_eq_true_eq]
  constructor
  · intro h
    cases e : ups (rs.take i) r.b with
    | nil => rw [e] at h; simp at h
    | cons p t =>
      have : p ∈ ups (rs.take i) r.b := by rw [e]; exact List.mem_cons_self
      obtain ⟨q, h1, _, h3, h4⟩ := mem_ups.mp this
      exact ⟨q, h1, h3, h4⟩
  · rintro ⟨q, h1, h3, h4⟩
    have hm : q.a ∈ ups (rs.take i) r.b := mem_ups.mpr ⟨q, h1, rfl, h3, h4⟩
    cases e : ups (rs.take i) r.b with
    | nil => rw [e] at hm; cases hm
    | cons p t =>
      have hp : p ∈ ups (rs.take i) r.b := by rw [e]; exact List.mem_cons_self
      obtain ⟨q2, g1, g2, g3, g4⟩ := mem_ups.mp hp
      show ¬ some p = some r.a
      intro z
      have z := Option.some.inj z
      obtain ⟨j, hj⟩ := List.mem_iff_getElem?.mp g1
      have hjl : j < (rs.take i).length := (List.getElem?_eq_some_iff.mp hj).1
      have hji : j < i := by rw [List.length_take] at hjl; omega
      rw [List.getElem?_take_of_lt hji] at hj
      have := o.one j i q2 r hj hi (g2.trans z) g3
      omega
theorem getD_step {rs : Rows N} (o : Ok rs) {a b : N} {s : Int} (h : 0 ≤ s) : decide ((stepOf rs a b).getD (-1) = s) = has rs a b s := by
  rw [has_step o]
  cases e : stepOf rs a b with
  | none => simp; omega
  | some t => simp
theorem line_eq {rs : Rows N} (o : Ok rs) {i : Nat} {r : Row N} (hi : rs[i]? = some r) : jLine rs r = lawLine rs i r := by
  unfold jLine lawLine
  by_cases h1 : r.s = 1
  · rw [if_pos h1, if_pos h1]
    exact parent_first o hi h1
  · rw [if_neg h1, if_neg h1]
    by_cases h0 : r.s = 0
    · rw [if_pos h0, if_pos h0]
    · rw [if_neg h0, if_neg h0]
      have hp := o.s0 r (List.mem_of_getElem? hi)
      congr 2
      funext n
      exact getD_step o (by omega)
theorem gap_eq {rs : Rows N} (o : Ok rs) {r : Row N} (hr : r ∈ rs) : jGap rs r = lawGap rs r := by
  unfold jGap lawGap
  congr 1
  funext n
  have hp := o.s0 r hr
  rw [getD_step o (by omega)]

theorem zipIdx_filter {α : Type} (p : α → Bool) : ∀ (l : List α) (n : Nat), ((l.zipIdx n).filter fun q => p q.1).map (·.1) = l.filter p
  | [], _ => rfl
  | x :: l, n => by
    rw [List.zipIdx_cons]
    cases h : p x with
    | true => rw [List.filter_cons_of_pos (by exact h), List.filter_cons_of_pos h, List.map_cons, zipIdx_filter p l]
    | false => rw [List.filter_cons_of_neg (by simp [h]), List.filter_cons_of_neg (by simp [h]), zipIdx_filter p l]
theorem sibs_map (rs : Rows N) (p : Option N) : (sibs rs p).map (·.1) = jsibs rs p := by
  unfold sibs jsibs
  have e := zipIdx_filter (fun q : Row N => decide (q.s = 0) && decide (parent rs q.a = p)) rs 0
  rw [e, List.filter_filter]
  congr 1
  funext q
  exact Bool.and_comm _ _
theorem mem_zipIdx {α : Type} : ∀ {l : List α} {n : Nat} {q : α × Nat}, q ∈ l.zipIdx n → ∃ j, q.2 = n + j ∧ l[j]? = some q.1
  | [], _, _, h => by cases h
  | x :: l, n, q, h => by
    rw [List.zipIdx_cons] at h
    rcases List.mem_cons.mp h with e | h
    · subst e; exact ⟨0, rfl, rfl⟩
    · obtain ⟨j, e1, e2⟩ := mem_zipIdx h
      exact ⟨j + 1, by omega, by simpa using e2⟩
theorem spot_at {rs : Rows N} (o : Ok rs) {j : Nat} {q : Row N} (hj : rs[j]? = some q) (hs : q.s = 0) : spot rs q.a = some j := by
  unfold spot
  rw [List.findIdx?_eq_some_iff_getElem]
  obtain ⟨h1, h2⟩ := List.getElem?_eq_some_iff.mp hj
  refine ⟨h1, by rw [h2]; simp [hs], fun i hi => ?_⟩
  have h3 : i < rs.length := by omega
  intro z
  simp at z
  have e1 : rs[i]? = some rs[i] := List.getElem?_eq_getElem h3
  have e2 := (o.eq _ (List.mem_of_getElem? e1)).mp z.2
  have e3 := (o.eq _ (List.mem_of_getElem? hj)).mp hs
  have := o.one i j rs[i] q e1 hj z.1 (by rw [← e2, ← e3]; exact z.1)
  omega
theorem order_eq {rs : Rows N} (o : Ok rs) (i : Nat) (r : Row N) : jOrder rs i r = lawOrder rs i r := by
  unfold jOrder lawOrder
  by_cases h0 : r.s = 0
  · rw [if_pos h0, if_pos h0, ← sibs_map, List.length_map, List.any_map]
    congr 1
    rw [Bool.eq_iff_iff, List.any_eq_true, List.any_eq_true]
    constructor
    all_goals
      rintro ⟨q, hq, h⟩
      refine ⟨q, hq, ?_⟩
      have hz : q ∈ rs.zipIdx := (List.mem_filter.mp hq).1
      have hs : q.1.s = 0 := by
        have := (List.mem_filter.mp hq).2
        simp at this
        exact this.1
      obtain ⟨j, e1, e2⟩ := mem_zipIdx hz
      have e3 := spot_at o e2 hs
      simp only [Function.comp, Bool.and_eq_true, decide_eq_true_eq, e3, Option.getD_some] at h ⊢
      omega
  · rw [if_neg h0, if_neg h0]

/-- the first place is one where f and g agree up to and at it -/
theorem firstAt_congr {f g : Nat → Row N → Bool} {rs : Rows N} (h : ∀ i r, rs[i]? = some r → f i r = g i r) : firstAt f rs = firstAt g rs := by
  unfold firstAt
  have e : (fun i => (rs[i]?.map (f i)).getD false) = fun i => (rs[i]?.map (g i)).getD false := by
    funext i
    cases e : rs[i]? with
    | none => rfl
    | some r => exact h i r e
  rw [e]
theorem find_range {p q : Nat → Bool} (n : Nat) (h : ∀ i, i < n → (∀ j, j < i → q j = false) → p i = q i) : (List.range n).find? p = (List.range n).find? q := by
  induction n with
  | zero => rfl
  | succ n ih =>
    rw [List.range_succ, List.find?_append, List.find?_append, ih fun i hi hj => h i (by omega) hj]
    cases e : (List.range n).find? q with
    | some x => rfl
    | none =>
      have hq : ∀ j, j < n → q j = false := fun j hj => by
        have := List.find?_eq_none.mp e j (List.mem_range.mpr hj)
        simpa using this
      have w := h n (by omega) hq
      show ([n].find? p : Option Nat) = [n].find? q
      rw [List.find?_cons, List.find?_cons, w]
      rfl
theorem take_of {rs : Rows N} {i : Nat} {q : Row N} (h : q ∈ rs.take i) : ∃ j, j < i ∧ rs[j]? = some q := by
  obtain ⟨j, hj⟩ := List.mem_iff_getElem?.mp h
  have hjl : j < (rs.take i).length := (List.getElem?_eq_some_iff.mp hj).1
  have hji : j < i := by rw [List.length_take] at hjl; omega
  rw [List.getElem?_take_of_lt hji] at hj
  exact ⟨j, hji, hj⟩
theorem of_take {rs : Rows N} {i j : Nat} {q : Row N} (h : j < i) (hj : rs[j]? = some q) : q ∈ rs.take i :=
  List.mem_iff_getElem?.mpr ⟨j, by rw [List.getElem?_take_of_lt h]; exact hj⟩
/-- an attribute d of a row's key c: the first row with the key, against every earlier one -/
theorem first_other {M : Type} [DecidableEq M] (c : Row N → M) (d : Row N → Int) (rs : Rows N) :
    firstAt (fun _ r => !decide (some (d r) = (rs.find? fun q => decide (c q = c r)).map d)) rs = firstAt (fun i r => (rs.take i).any fun q => decide (c q = c r) && !decide (d q = d r)) rs := by
  unfold firstAt
  refine find_range _ fun i hi hq => ?_
  have e : rs[i]? = some rs[i] := List.getElem?_eq_getElem hi
  rw [e]
  show (!decide (some (d rs[i]) = (rs.find? fun q => decide (c q = c rs[i])).map d)) = (rs.take i).any fun q => decide (c q = c rs[i]) && !decide (d q = d rs[i])
  -- the first row with the key
  cases ef : rs.find? (fun q => decide (c q = c rs[i])) with
  | none =>
    have := List.find?_eq_none.mp ef rs[i] (List.mem_of_getElem? e)
    simp at this
  | some f =>
    have hc : c f = c rs[i] := by simpa using List.find?_some ef
    obtain ⟨j, hj, hn⟩ : ∃ j, rs[j]? = some f ∧ ∀ m, m < j → ∀ q, rs[m]? = some q → c q ≠ c rs[i] := by
      obtain ⟨_, as, bs, e1, e2⟩ := List.find?_eq_some_iff_append.mp ef
      have e3 : (as ++ f :: bs)[as.length]? = some f := by rw [List.getElem?_append_right (Nat.le_refl _), Nat.sub_self]; rfl
      refine ⟨as.length, e1 ▸ e3, fun m hm q hq' z => ?_⟩
      have hq' : (as ++ f :: bs)[m]? = some q := e1 ▸ hq'
      rw [List.getElem?_append_left hm] at hq'
      have := e2 q (List.mem_of_getElem? hq')
      simp [z] at this
    have hji : j ≤ i := by
      rcases Nat.lt_or_ge i j with z | z
      · exact absurd rfl (hn i z _ e)
      · exact z
    rw [Bool.eq_iff_iff]
    simp only [Option.map_some, Bool.not_eq_true', decide_eq_false_iff_not, List.any_eq_true, Bool.and_eq_true, decide_eq_true_eq]
    constructor
    · intro h
      have hd : d f ≠ d rs[i] := fun z => h (by rw [z])
      have hlt : j < i := by
        rcases Nat.lt_or_ge j i with z | z
        · exact z
        · have : j = i := by omega
          subst this
          rw [e] at hj
          exact absurd (by rw [Option.some.inj hj]) hd
      exact ⟨f, of_take hlt hj, hc, hd⟩
    · rintro ⟨q, hqm, h1, h2⟩ z
      have z := Option.some.inj z
      obtain ⟨m, hm, hmq⟩ := take_of hqm
      have hjm : j ≤ m := by
        rcases Nat.lt_or_ge m j with y | y
        · exact absurd h1 (hn m y q hmq)
        · exact y
      rcases Nat.lt_or_ge j m with y | y
      · have w := hq m hm
        rw [hmq] at w
        have w' : ((rs.take m).any fun q' => decide (c q' = c q) && !decide (d q' = d q)) = false := w
        have := List.any_eq_false.mp w' f (of_take y hj)
        simp only [Bool.and_eq_true, decide_eq_true_eq, Bool.not_eq_true', decide_eq_false_iff_not, not_and, Decidable.not_not] at this
        exact h2 ((this (hc.trans h1.symm)).symm.trans z.symm)
      · have : j = m := by omega
        subst this
        rw [hj] at hmq
        rw [← Option.some.inj hmq] at h2
        exact h2 z.symm
/-- THE JUDGE SAYS WHAT THE LAW ASKS -/
theorem judged_due {rs : Rows N} (o : Ok rs) : judged rs = due rs := by
  have key : ∀ w, w < 6 → firstAt (jWrong w rs) rs = firstAt (lawWrong w rs) rs := by
    intro w hw
    rcases (show w = 0 ∨ w = 1 ∨ w = 2 ∨ w = 3 ∨ w = 4 ∨ w = 5 by omega) with rfl | rfl | rfl | rfl | rfl | rfl
    · exact firstAt_congr fun i r h => self_eq o r
    · exact firstAt_congr fun i r h => line_eq o h
    · exact firstAt_congr fun i r h => gap_eq o (List.mem_of_getElem? h)
    · exact first_other (·.a) (·.k) rs
    · exact first_other (·.b) (·.v) rs
    · exact firstAt_congr fun i r h => order_eq o i r
  unfold judged due firstOf
  have e : List.range 6 = [0, 1, 2, 3, 4, 5] := rfl
  rw [e]
  simp only [List.findSome?_cons, List.findSome?_nil, key 0 (by omega), key 1 (by omega), key 2 (by omega), key 3 (by omega), key 4 (by omega), key 5 (by omega)]
/-- no fault: no word applies to any row -/
theorem due_none {rs : Rows N} (h : due rs = none) : ∀ w, w < 6 → ∀ i r, rs[i]? = some r → lawWrong w rs i r = false := by
  intro w hw i r hi
  unfold due firstOf at h
  have h1 := List.findSome?_eq_none_iff.mp h w (List.mem_range.mpr hw)
  have h2 : firstAt (lawWrong w rs) rs = none := by
    cases e : firstAt (lawWrong w rs) rs with
    | none => rfl
    | some p => rw [e] at h1; cases h1
  unfold firstAt at h2
  have hl : i < rs.length := (List.getElem?_eq_some_iff.mp hi).1
  have h3 := List.find?_eq_none.mp h2 i (List.mem_range.mpr hl)
  rw [hi] at h3
  simpa using h3
end
end FR
end

section
set_option linter.all false
/-! Plain Lean: rows without a fault are the pair rows of a forest. -/
namespace FR
section
variable {N : Type} [DecidableEq N]

/-- what no fault says, whatever the order of the rows -/
structure Good (rs : Rows N) : Prop where
  nd : rs.Nodup
  one : ∀ r ∈ rs, ∀ q ∈ rs, r.a = q.a → r.b = q.b → r = q
  s0 : ∀ r ∈ rs, 0 ≤ r.s
  k0 : ∀ r ∈ rs, 0 ≤ r.k
  eq : ∀ r ∈ rs, r.s = 0 ↔ r.a = r.b
  sa : ∀ r ∈ rs, ∃ q ∈ rs, q.a = r.a ∧ q.b = r.a ∧ q.s = 0
  sb : ∀ r ∈ rs, ∃ q ∈ rs, q.a = r.b ∧ q.b = r.b ∧ q.s = 0
  l1 : ∀ r ∈ rs, ∀ q ∈ rs, r.s = 1 → q.s = 1 → r.b = q.b → r.a = q.a
  l2 : ∀ r ∈ rs, 1 < r.s → ∃ p ∈ rs, p.b = r.b ∧ p.s = 1 ∧ ∃ q ∈ rs, q.a = r.a ∧ q.b = p.a ∧ q.s = r.s - 1
  gap : ∀ r ∈ rs, ∀ q ∈ rs, q.b = r.a → q.s = 1 → ∃ t ∈ rs, t.a = q.a ∧ t.b = r.b ∧ t.s = r.s + 1
  rk : ∀ r ∈ rs, ∀ q ∈ rs, r.a = q.a → r.k = q.k
  vl : ∀ r ∈ rs, ∀ q ∈ rs, r.b = q.b → r.v = q.v
  or1 : ∀ r ∈ rs, r.s = 0 → r.k < ((jsibs rs (parent rs r.a)).length : Int)
  or2 : ∀ r ∈ rs, ∀ q ∈ rs, r.s = 0 → q.s = 0 → parent rs r.a = parent rs q.a → r.k = q.k → r = q

theorem mem_jsibs {rs : Rows N} {p : Option N} {q : Row N} : q ∈ jsibs rs p ↔ q ∈ rs ∧ q.s = 0 ∧ parent rs q.a = p := by
  unfold jsibs
  simp only [List.mem_filter, decide_eq_true_eq, and_assoc]

theorem Good.of {rs : Rows N} (o : Ok rs) (h : due rs = none) : Good rs := by
  have z := due_none h
  have at_ : ∀ r ∈ rs, ∃ i, rs[i]? = some r := fun r hr => List.mem_iff_getElem?.mp hr
  have nd : rs.Nodup := by
    rw [List.nodup_iff_pairwise_ne, List.pairwise_iff_getElem]
    intro i j hi hj hij e
    have := o.one i j rs[i] rs[j] (List.getElem?_eq_getElem hi) (List.getElem?_eq_getElem hj) (by rw [e]) (by rw [e])
    omega
  have line1 : ∀ (i j : Nat) (r q : Row N), rs[i]? = some r → rs[j]? = some q → r.s = 1 → q.s = 1 → r.b = q.b → ¬ i < j := by
    intro i j r q hi hj h1 h2 hb hij
    have w : lawLine rs j q = false := z 1 (by omega) j q hj
    unfold lawLine at w
    rw [if_pos h2] at w
    have := List.any_eq_false.mp w r (of_take hij hi)
    simp [hb, h1] at this
  refine ⟨nd, fun r hr q hq => o.same hr hq, o.s0, o.k0, o.eq, fun r hr => ?_, fun r hr => ?_, fun r hr q hq h1 h2 hb => ?_, fun r hr h1 => ?_, fun r hr q hq hb hs => ?_, ?_, ?_, fun r hr h0 => ?_, ?_⟩
  · obtain ⟨i, hi⟩ := at_ r hr
    have w : lawSelf rs r = false := z 0 (by omega) i r hi
    unfold lawSelf at w
    simp only [Bool.or_eq_false_iff, Bool.not_eq_false'] at w
    exact has_iff.mp w.1
  · obtain ⟨i, hi⟩ := at_ r hr
    have w : lawSelf rs r = false := z 0 (by omega) i r hi
    unfold lawSelf at w
    simp only [Bool.or_eq_false_iff, Bool.not_eq_false'] at w
    exact has_iff.mp w.2
  · obtain ⟨i, hi⟩ := at_ r hr
    obtain ⟨j, hj⟩ := at_ q hq
    have a1 := line1 i j r q hi hj h1 h2 hb
    have a2 := line1 j i q r hj hi h2 h1 hb.symm
    have : i = j := by omega
    subst this
    rw [hi] at hj
    rw [Option.some.inj hj]
  · obtain ⟨i, hi⟩ := at_ r hr
    have w : lawLine rs i r = false := z 1 (by omega) i r hi
    unfold lawLine at w
    rw [if_neg (by omega), if_neg (by omega)] at w
    rw [Bool.not_eq_false', List.any_eq_true] at w
    obtain ⟨n, hn, hh⟩ := w
    obtain ⟨p, hp, e1, e2, e3⟩ := mem_ups.mp hn
    obtain ⟨q, hq, f1, f2, f3⟩ := has_iff.mp hh
    exact ⟨p, hp, e2, e3, q, hq, f1, f2.trans e1.symm, f3⟩
  · obtain ⟨i, hi⟩ := at_ r hr
    have w : lawGap rs r = false := z 2 (by omega) i r hi
    unfold lawGap at w
    have := List.any_eq_false.mp w q.a (mem_ups.mpr ⟨q, hq, rfl, hb, hs⟩)
    simp only [Bool.not_eq_true', Bool.not_eq_false] at this
    exact has_iff.mp this
  · have main : ∀ (i j : Nat) (r q : Row N), rs[i]? = some r → rs[j]? = some q → r.a = q.a → i < j → r.k = q.k := by
      intro i j r q hi hj ha hij
      have w : lawRanks rs j q = false := z 3 (by omega) j q hj
      unfold lawRanks at w
      have := List.any_eq_false.mp w r (of_take hij hi)
      simp only [Bool.and_eq_true, decide_eq_true_eq, Bool.not_eq_true', decide_eq_false_iff_not, not_and, Decidable.not_not] at this
      exact this ha
    intro r hr q hq ha
    obtain ⟨i, hi⟩ := at_ r hr
    obtain ⟨j, hj⟩ := at_ q hq
    rcases Nat.lt_trichotomy i j with y | y | y
    · exact main i j r q hi hj ha y
    · subst y
      rw [hi] at hj
      rw [Option.some.inj hj]
    · exact (main j i q r hj hi ha.symm y).symm
  · have main : ∀ (i j : Nat) (r q : Row N), rs[i]? = some r → rs[j]? = some q → r.b = q.b → i < j → r.v = q.v := by
      intro i j r q hi hj ha hij
      have w : lawValues rs j q = false := z 4 (by omega) j q hj
      unfold lawValues at w
      have := List.any_eq_false.mp w r (of_take hij hi)
      simp only [Bool.and_eq_true, decide_eq_true_eq, Bool.not_eq_true', decide_eq_false_iff_not, not_and, Decidable.not_not] at this
      exact this ha
    intro r hr q hq ha
    obtain ⟨i, hi⟩ := at_ r hr
    obtain ⟨j, hj⟩ := at_ q hq
    rcases Nat.lt_trichotomy i j with y | y | y
    · exact main i j r q hi hj ha y
    · subst y
      rw [hi] at hj
      rw [Option.some.inj hj]
    · exact (main j i q r hj hi ha.symm y).symm
  · obtain ⟨i, hi⟩ := at_ r hr
    have w : lawOrder rs i r = false := z 5 (by omega) i r hi
    unfold lawOrder at w
    rw [if_pos h0] at w
    have := (Bool.or_eq_false_iff.mp w).1
    simp only [decide_eq_false_iff_not] at this
    rw [← sibs_map, List.length_map]
    omega
  · have main : ∀ (i j : Nat) (r q : Row N), rs[i]? = some r → rs[j]? = some q → r.s = 0 → q.s = 0 → parent rs r.a = parent rs q.a → r.k = q.k → ¬ i < j := by
      intro i j r q hi hj hr hq hp hk hij
      have w : lawOrder rs j q = false := z 5 (by omega) j q hj
      unfold lawOrder at w
      rw [if_pos hq] at w
      have w2 := (Bool.or_eq_false_iff.mp w).2
      have hm : (r, i) ∈ sibs rs (parent rs q.a) := by
        unfold sibs
        refine List.mem_filter.mpr ⟨?_, by simp [hr, hp]⟩
        rw [List.mem_zipIdx_iff_getElem?]
        exact hi
      have := List.any_eq_false.mp w2 (r, i) hm
      simp [hij, hk] at this
    intro r hr q hq h0 h0' hp hk
    obtain ⟨i, hi⟩ := at_ r hr
    obtain ⟨j, hj⟩ := at_ q hq
    have a1 := main i j r q hi hj h0 h0' hp hk
    have a2 := main j i q r hj hi h0' h0 hp.symm hk.symm
    have : i = j := by omega
    subst this
    rw [hi] at hj
    exact Option.some.inj hj

/-! ### lists -/
theorem nodup_le {α : Type} : ∀ {l m : List α}, l.Nodup → (∀ x ∈ l, x ∈ m) → l.length ≤ m.length
  | [], _, _, _ => Nat.zero_le _
  | x :: l, m, h, hs => by
    obtain ⟨a, b, e⟩ := List.append_of_mem (hs x List.mem_cons_self)
    subst e
    have h1 := List.nodup_cons.mp h
    have := nodup_le (l := l) (m := a ++ b) h1.2 fun y hy => by
      have := hs y (List.mem_cons_of_mem _ hy)
      rcases List.mem_append.mp this with z | z
      · exact List.mem_append_left _ z
      · rcases List.mem_cons.mp z with e | z
        · subst e; exact absurd hy h1.1
        · exact List.mem_append_right _ z
    simp only [List.length_append, List.length_cons] at this ⊢
    omega
/-- as many different numbers as there are below m: each one is there -/
theorem all_below {α : Type} {l : List α} (f : α → Int) (hn : l.Nodup) (hi : ∀ x ∈ l, ∀ y ∈ l, f x = f y → x = y) (hb : ∀ x ∈ l, 0 ≤ f x ∧ f x < (l.length : Int)) (c : Int) (h0 : 0 ≤ c) (hc : c < (l.length : Int)) : ∃ x ∈ l, f x = c := by
  refine Classical.byContradiction fun no => ?_
  have h1 : (l.map f).Nodup := by
    rw [List.nodup_iff_pairwise_ne, List.pairwise_map]
    refine List.Pairwise.imp_of_mem ?_ (List.nodup_iff_pairwise_ne.mp hn)
    intro x y hx hy hne e
    exact hne (hi x hx y hy e)
  let m : List Int := ((List.range l.length).map fun (i : Nat) => (i : Int)).filter fun x => !decide (x = c)
  have h2 : ∀ x ∈ l.map f, x ∈ m := by
    intro x hx
    obtain ⟨y, hy, e⟩ := List.mem_map.mp hx
    have hby := hb y hy
    refine List.mem_filter.mpr ⟨List.mem_map.mpr ⟨x.toNat, List.mem_range.mpr (by omega), by omega⟩, ?_⟩
    have : x ≠ c := fun z => no ⟨y, hy, e.trans z⟩
    simp [this]
  have h3 := nodup_le h1 h2
  have h4 : m.length < l.length := by
    have h5 : m.length < ((List.range l.length).map fun (i : Nat) => (i : Int)).length := by
      refine Nat.lt_of_le_of_ne (List.length_filter_le _ _) fun z => ?_
      have h6 := List.length_filter_eq_length_iff.mp z c (List.mem_map.mpr ⟨c.toNat, List.mem_range.mpr (by omega), by omega⟩)
      simp at h6
    simpa using h5
  rw [List.length_map] at h3
  omega
end
end FR
end

section
set_option linter.all false
/-! Plain Lean: the line of each name. -/
namespace FR
section
variable {N : Type} [DecidableEq N]

theorem parent_some {rs : Rows N} (G : Good rs) {n p : N} : parent rs n = some p ↔ ∃ r ∈ rs, r.a = p ∧ r.b = n ∧ r.s = 1 := by
  constructor
  · intro h
    have hm : p ∈ ups rs n := List.mem_of_mem_head? (by unfold parent at h; rw [h]; rfl)
    exact mem_ups.mp hm
  · rintro ⟨r, hr, h1, h2, h3⟩
    have hm : p ∈ ups rs n := mem_ups.mpr ⟨r, hr, h1, h2, h3⟩
    unfold parent
    cases e : ups rs n with
    | nil => rw [e] at hm; cases hm
    | cons x t =>
      have hx : x ∈ ups rs n := by rw [e]; exact List.mem_cons_self
      obtain ⟨q, hq, g1, g2, g3⟩ := mem_ups.mp hx
      have := G.l1 q hq r hr g3 h3 (g2.trans h2.symm)
      show some x = some p
      rw [← g1, ← h1, this]
theorem parent_none {rs : Rows N} {n : N} (h : parent rs n = none) : ∀ r ∈ rs, r.b = n → r.s ≠ 1 := by
  intro r hr h2 h3
  have hm : r.a ∈ ups rs n := mem_ups.mpr ⟨r, hr, rfl, h2, h3⟩
  unfold parent at h
  cases e : ups rs n with
  | nil => rw [e] at hm; cases hm
  | cons x t => rw [e] at h; cases h

theorem s_one {rs : Rows N} (G : Good rs) : ∀ (m : Nat) (r q : Row N), r ∈ rs → q ∈ rs → r.s = (m : Int) → q.s = (m : Int) → r.b = q.b → r = q
  | 0, r, q, hr, hq, h1, h2, hb => G.one r hr q hq (((G.eq r hr).mp (by simpa using h1)).trans (hb.trans ((G.eq q hq).mp (by simpa using h2)).symm)) hb
  | 1, r, q, hr, hq, h1, h2, hb => G.one r hr q hq (G.l1 r hr q hq (by simpa using h1) (by simpa using h2) hb) hb
  | m + 2, r, q, hr, hq, h1, h2, hb => by
    obtain ⟨p, hp, e1, e2, u, hu, f1, f2, f3⟩ := G.l2 r hr (by omega)
    obtain ⟨p', hp', e1', e2', u', hu', f1', f2', f3'⟩ := G.l2 q hq (by omega)
    have ep := G.l1 p hp p' hp' e2 e2' (e1.trans (hb.trans e1'.symm))
    have eu := s_one G (m + 1) u u' hu hu' (by omega) (by omega) (by rw [f2, f2', ep])
    exact G.one r hr q hq (by rw [← f1, ← f1', eu]) hb
theorem s_uniq {rs : Rows N} (G : Good rs) {r q : Row N} (hr : r ∈ rs) (hq : q ∈ rs) (hs : r.s = q.s) (hb : r.b = q.b) : r = q :=
  s_one G r.s.toNat r q hr hq (by have := G.s0 r hr; omega) (by have := G.s0 r hr; omega) hb

theorem up_trans {rs : Rows N} (G : Good rs) : ∀ (t : Nat) (n : N) (u w : Row N), u ∈ rs → u.b = n → w ∈ rs → w.b = u.a → w.s = (t : Int) → ∃ x ∈ rs, x.a = w.a ∧ x.b = n ∧ x.s = u.s + t
  | 0, n, u, w, hu, hn, hw, hb, hs => by
    have e := (G.eq w hw).mp (by simpa using hs)
    exact ⟨u, hu, hb.symm.trans e.symm, hn, by omega⟩
  | t + 1, n, u, w, hu, hn, hw, hb, hs => by
    obtain ⟨p, hp, e1, e2, q, hq, f1, f2, f3⟩ : ∃ p ∈ rs, p.b = w.b ∧ p.s = 1 ∧ ∃ q ∈ rs, q.a = w.a ∧ q.b = p.a ∧ q.s = w.s - 1 := by
      by_cases h1 : w.s = 1
      · obtain ⟨q, hq, g1, g2, g3⟩ := G.sa w hw
        exact ⟨w, hw, rfl, h1, q, hq, g1, g2, by omega⟩
      · exact G.l2 w hw (by omega)
    obtain ⟨y, hy, g1, g2, g3⟩ := G.gap u hu p hp (e1.trans hb) e2
    obtain ⟨x, hx, k1, k2, k3⟩ := up_trans G t n y q hy (g2.trans hn) hq (f2.trans g1.symm) (by omega)
    exact ⟨x, hx, k1.trans f1, k2, by omega⟩

def shift (v : Int) (n : N) (r : Row N) : Row N := ⟨r.a, n, r.s + 1, r.k, v⟩
theorem shift_in {rs : Rows N} (G : Good rs) {n p : N} (hp : parent rs n = some p) {v : Int} (hv : ∀ r ∈ rs, r.b = n → r.v = v) {q : Row N} (hq : q ∈ rs) (hb : q.b = p) : shift v n q ∈ rs := by
  obtain ⟨u, hu, h1, h2, h3⟩ := (parent_some G).mp hp
  obtain ⟨x, hx, k1, k2, k3⟩ := up_trans G q.s.toNat n u q hu h2 hq (hb.trans h1.symm) (by have := G.s0 q hq; omega)
  have e : x = shift v n q := by
    obtain ⟨xa, xb, xs, xk, xv⟩ := x
    have ek := G.rk _ hx q hq k1
    have ev := hv _ hx k2
    have := G.s0 q hq
    simp only at k1 k2 k3 ek ev
    unfold shift
    simp only [Row.mk.injEq]
    exact ⟨k1, k2, by omega, ek, ev⟩
  rw [← e]
  exact hx
theorem of_shift {rs : Rows N} (G : Good rs) {n p : N} (hp : parent rs n = some p) {v : Int} (hv : ∀ r ∈ rs, r.b = n → r.v = v) {r : Row N} (hr : r ∈ rs) (hb : r.b = n) (hs : r.s ≠ 0) : ∃ q ∈ rs, q.b = p ∧ r = shift v n q := by
  have h0 := G.s0 r hr
  obtain ⟨u, hu, e1, e2, q, hq, f1, f2, f3⟩ : ∃ p ∈ rs, p.b = r.b ∧ p.s = 1 ∧ ∃ q ∈ rs, q.a = r.a ∧ q.b = p.a ∧ q.s = r.s - 1 := by
    by_cases h1 : r.s = 1
    · obtain ⟨q, hq, g1, g2, g3⟩ := G.sa r hr
      exact ⟨r, hr, rfl, h1, q, hq, g1, g2, by omega⟩
    · exact G.l2 r hr (by omega)
  have ep : u.a = p := Option.some.inj (((parent_some G).mpr ⟨u, hu, rfl, e1.trans hb, e2⟩).symm.trans hp)
  refine ⟨q, hq, f2.trans ep, ?_⟩
  have ek := G.rk _ hr q hq f1.symm
  have ev := hv _ hr hb
  obtain ⟨ra, rb, r_s, rk, rv⟩ := r
  simp only at f1 f3 ek ev hb
  unfold shift
  simp only [Row.mk.injEq]
  exact ⟨f1.symm, hb, by omega, ek, ev⟩

/-! ### lists -/
theorem perm_of {α : Type} : ∀ {l m : List α}, l.Nodup → m.Nodup → (∀ x, x ∈ l ↔ x ∈ m) → l.Perm m
  | [], m, _, _, h => by
    cases m with
    | nil => exact List.Perm.nil
    | cons x t => exact absurd ((h x).mpr List.mem_cons_self) (by simp)
  | x :: l, m, hl, hm, h => by
    obtain ⟨a, b, e⟩ := List.append_of_mem ((h x).mp List.mem_cons_self)
    subst e
    have h1 := List.nodup_cons.mp hl
    have hm2 : (a ++ b).Nodup ∧ x ∉ a ++ b := by
      have := (List.perm_middle (a := x) (l₁ := a) (l₂ := b)).nodup_iff.mp hm
      exact ⟨(List.nodup_cons.mp this).2, (List.nodup_cons.mp this).1⟩
    refine (List.Perm.cons x (perm_of h1.2 hm2.1 fun y => ?_)).trans List.perm_middle.symm
    have := h y
    constructor
    · intro hy
      have : y ∈ a ++ x :: b := this.mp (List.mem_cons_of_mem _ hy)
      rcases List.mem_append.mp this with z | z
      · exact List.mem_append_left _ z
      · rcases List.mem_cons.mp z with z | z
        · subst z; exact absurd hy h1.1
        · exact List.mem_append_right _ z
    · intro hy
      have h3 : y ∈ x :: l := this.mpr (by
        rcases List.mem_append.mp hy with z | z
        · exact List.mem_append_left _ z
        · exact List.mem_append_right _ (List.mem_cons_of_mem _ z))
      rcases List.mem_cons.mp h3 with z | z
      · subst z; exact absurd hy hm2.2
      · exact z
/-- two sorted rearrangements are one -/
theorem sort_uniq {α : Type} {R : α → α → Prop} : ∀ {l m : List α}, l.Perm m → l.Pairwise R → m.Pairwise R → (∀ x ∈ l, ∀ y ∈ l, R x y → R y x → x = y) → l = m
  | [], m, h, _, _, _ => (List.Perm.nil_eq h)
  | x :: l, [], h, _, _, _ => absurd h.length_eq (by simp)
  | x :: l, y :: m, h, hl, hm, ha => by
    have hx : x ∈ y :: m := h.subset List.mem_cons_self
    have hy : y ∈ x :: l := h.symm.subset List.mem_cons_self
    have e : x = y := by
      rcases List.mem_cons.mp hx with e | hx
      · exact e
      · rcases List.mem_cons.mp hy with e | hy
        · exact e.symm
        · exact ha x List.mem_cons_self y (List.mem_cons_of_mem _ hy) ((List.pairwise_cons.mp hl).1 y hy) ((List.pairwise_cons.mp hm).1 x hx)
    subst e
    rw [sort_uniq h.cons_inv (List.pairwise_cons.mp hl).2 (List.pairwise_cons.mp hm).2 fun a h1 b h2 => ha a (List.mem_cons_of_mem _ h1) b (List.mem_cons_of_mem _ h2)]

/-! ### the line of a name -/
inductive Path (rs : Rows N) : N → List (N × Int) → Prop
  | root {q : Row N} : q ∈ rs → q.s = 0 → parent rs q.a = none → Path rs q.a [(q.a, q.k)]
  | step {q : Row N} {p : N} {L : List (N × Int)} : q ∈ rs → q.s = 0 → parent rs q.a = some p → Path rs p L → Path rs q.a (L ++ [(q.a, q.k)])
/-- the rows of a name n by its line -/
def rowsOf (n : N) (v : Int) (L : List (N × Int)) : Rows N := L.zipIdx.map fun q => ⟨q.1.1, n, (L.length : Int) - 1 - q.2, q.1.2, v⟩
theorem rowsOf_snoc (n p : N) (v v' k : Int) (L : List (N × Int)) : rowsOf n v (L ++ [(n, k)]) = (rowsOf p v' L).map (shift v n) ++ [⟨n, n, 0, k, v⟩] := by
  unfold rowsOf
  rw [List.zipIdx_append, List.map_append, List.map_map]
  congr 1
  · apply List.map_congr_left
    intro q hq
    simp only [Function.comp, shift, Row.mk.injEq, List.length_append, List.length_singleton]
    refine ⟨trivial, trivial, by omega, trivial, trivial⟩
  · simp
def lineLe (x y : Row N) : Bool := decide (0 - x.s ≤ 0 - y.s)
def lineOf (rs : Rows N) (n : N) : Rows N := (rs.filter fun r => decide (r.b = n)).mergeSort lineLe
theorem lineOf_perm (rs : Rows N) (n : N) : (lineOf rs n).Perm (rs.filter fun r => decide (r.b = n)) := List.mergeSort_perm _ _
theorem lineOf_sorted (rs : Rows N) (n : N) : (lineOf rs n).Pairwise fun x y => lineLe x y = true := by
  refine List.pairwise_mergeSort ?_ ?_ _
  · intro a b c h1 h2
    unfold lineLe at *
    simp only [decide_eq_true_eq] at *
    omega
  · intro a b
    unfold lineLe
    simp only [Bool.or_eq_true, decide_eq_true_eq]
    omega
theorem mem_lineOf {rs : Rows N} {n : N} {r : Row N} : r ∈ lineOf rs n ↔ r ∈ rs ∧ r.b = n := by
  rw [(lineOf_perm rs n).mem_iff, List.mem_filter, decide_eq_true_iff]
theorem lineOf_nodup {rs : Rows N} (h : rs.Nodup) (n : N) : (lineOf rs n).Nodup := (lineOf_perm rs n).nodup_iff.mpr (h.filter _)
theorem line_eq_of {rs : Rows N} (G : Good rs) {n : N} {L : Rows N} (hn : L.Nodup) (hm : ∀ r, r ∈ L ↔ r ∈ rs ∧ r.b = n) (hs : L.Pairwise fun x y => lineLe x y = true) : lineOf rs n = L := by
  refine sort_uniq (perm_of (lineOf_nodup G.nd n) hn fun r => ?_) (lineOf_sorted rs n) hs fun x hx y hy h1 h2 => ?_
  · rw [mem_lineOf, hm]
  · obtain ⟨x1, x2⟩ := mem_lineOf.mp hx
    obtain ⟨y1, y2⟩ := mem_lineOf.mp hy
    unfold lineLe at h1 h2
    simp only [decide_eq_true_eq] at h1 h2
    exact s_uniq G x1 y1 (by omega) (x2.trans y2.symm)
theorem line_root {rs : Rows N} (G : Good rs) {q : Row N} (hq : q ∈ rs) (h0 : q.s = 0) (hp : parent rs q.a = none) : lineOf rs q.a = [q] := by
  have hb := (G.eq q hq).mp h0
  refine line_eq_of G (by simp) (fun r => ?_) (by simp)
  rw [List.mem_singleton]
  constructor
  · rintro rfl; exact ⟨hq, hb.symm⟩
  · rintro ⟨hr, hrb⟩
    have hs : r.s = 0 := by
      have h1 := parent_none hp r hr hrb
      have h2 := G.s0 r hr
      by_cases h3 : 1 < r.s
      · obtain ⟨u, hu, e1, e2, _⟩ := G.l2 r hr h3
        exact absurd e2 (parent_none hp u hu (e1.trans hrb))
      · omega
    exact s_uniq G hr hq (hs.trans h0.symm) (hrb.trans hb)
theorem line_step {rs : Rows N} (G : Good rs) {q : Row N} {p : N} (hq : q ∈ rs) (h0 : q.s = 0) (hp : parent rs q.a = some p) : lineOf rs q.a = (lineOf rs p).map (shift q.v q.a) ++ [q] := by
  have hb := (G.eq q hq).mp h0
  have hv : ∀ r ∈ rs, r.b = q.a → r.v = q.v := fun r hr e => G.vl r hr q hq (e.trans hb)
  have inj : ∀ x ∈ lineOf rs p, ∀ y ∈ lineOf rs p, shift q.v q.a x = shift q.v q.a y → x = y := by
    intro x hx y hy e
    obtain ⟨x1, x2⟩ := mem_lineOf.mp hx
    obtain ⟨y1, y2⟩ := mem_lineOf.mp hy
    have e2 : x.s + 1 = y.s + 1 := congrArg (·.s) e
    exact s_uniq G x1 y1 (by omega) (x2.trans y2.symm)
  have hpos : ∀ x ∈ lineOf rs p, 1 ≤ (shift q.v q.a x).s := by
    intro x hx
    have := G.s0 x (mem_lineOf.mp hx).1
    show 1 ≤ x.s + 1
    omega
  refine line_eq_of G ?_ (fun r => ?_) ?_
  · rw [List.nodup_append]
    refine ⟨?_, by simp, ?_⟩
    · rw [List.nodup_iff_pairwise_ne, List.pairwise_map]
      exact List.Pairwise.imp_of_mem (fun {x y} hx hy hne e => hne (inj x hx y hy e)) (List.nodup_iff_pairwise_ne.mp (lineOf_nodup G.nd p))
    · intro x hx y hy e
      obtain ⟨z, hz, rfl⟩ := List.mem_map.mp hx
      rw [List.mem_singleton] at hy
      have := hpos z hz
      rw [e, hy, h0] at this
      omega
  · rw [List.mem_append, List.mem_map, List.mem_singleton]
    constructor
    · rintro (⟨x, hx, rfl⟩ | rfl)
      · obtain ⟨x1, x2⟩ := mem_lineOf.mp hx
        exact ⟨shift_in G hp hv x1 x2, rfl⟩
      · exact ⟨hq, hb.symm⟩
    · rintro ⟨hr, hrb⟩
      by_cases hs : r.s = 0
      · exact .inr (s_uniq G hr hq (hs.trans h0.symm) (hrb.trans hb))
      · obtain ⟨x, hx, e1, e2⟩ := of_shift G hp hv hr hrb hs
        exact .inl ⟨x, mem_lineOf.mpr ⟨hx, e1⟩, e2.symm⟩
  · rw [List.pairwise_append]
    refine ⟨?_, by simp, fun x hx y hy => ?_⟩
    · rw [List.pairwise_map]
      refine (lineOf_sorted rs p).imp fun {x y} h => ?_
      unfold lineLe shift at *
      simp only [decide_eq_true_eq] at *
      omega
    · obtain ⟨z, hz, rfl⟩ := List.mem_map.mp hx
      rw [List.mem_singleton] at hy
      have := hpos z hz
      unfold lineLe
      rw [decide_eq_true_iff, hy, h0]
      omega
/-- each name has its line -/
theorem path_all {rs : Rows N} (G : Good rs) : ∀ (m : Nat) (q : Row N), q ∈ rs → q.s = 0 → (lineOf rs q.a).length = m → ∃ L, Path rs q.a L ∧ lineOf rs q.a = rowsOf q.a q.v L := by
  intro m
  induction m using Nat.strongRecOn with
  | _ m ih =>
    intro q hq h0 hl
    have hb := (G.eq q hq).mp h0
    have eq_ : q = ⟨q.a, q.a, 0, q.k, q.v⟩ := by
      obtain ⟨a, b, s, k, v⟩ := q
      simp only at hb h0
      rw [← hb, h0]
    cases hp : parent rs q.a with
    | none =>
      refine ⟨_, .root hq h0 hp, ?_⟩
      rw [line_root G hq h0 hp]
      conv => lhs; rw [eq_]
      simp [rowsOf]
    | some p =>
      obtain ⟨u, hu, h1, h2, h3⟩ := (parent_some G).mp hp
      obtain ⟨w, hw, g1, g2, g3⟩ := G.sa u hu
      have hs := line_step G hq h0 hp
      have hwp : w.a = p := g1.trans h1
      have hlen : (lineOf rs w.a).length < m := by
        rw [← hl, hs, List.length_append, List.length_map, hwp]
        simp
      obtain ⟨L, hL, eL⟩ := ih _ hlen w hw g3 rfl
      rw [hwp] at hL eL
      refine ⟨_, .step hq h0 hp hL, ?_⟩
      rw [hs, rowsOf_snoc q.a p q.v w.v q.k L, eL]
      congr 2
end
end FR
end

section
set_option linter.all false
/-! Plain Lean: lines by their ranks, in their order. -/
namespace FR
section
variable {N : Type} [DecidableEq N]

theorem Path.self {rs : Rows N} {n : N} {L : List (N × Int)} (h : Path rs n L) : ∃ q ∈ rs, q.s = 0 ∧ q.a = n := by
  cases h with
  | root h1 h2 _ => exact ⟨_, h1, h2, rfl⟩
  | step h1 h2 _ _ => exact ⟨_, h1, h2, rfl⟩
theorem Path.uniq {rs : Rows N} (G : Good rs) {n : N} {L : List (N × Int)} (h : Path rs n L) : ∀ {M}, Path rs n M → L = M := by
  have key : ∀ {q q' : Row N}, q ∈ rs → q.s = 0 → q' ∈ rs → q'.s = 0 → q.a = q'.a → q = q' := fun {q q'} h1 h2 h3 h4 e =>
    G.one _ h1 _ h3 e (((G.eq _ h1).mp h2).symm.trans (e.trans ((G.eq _ h3).mp h4)))
  induction h with
  | @root q h1 h2 h3 =>
    intro M hM
    generalize hn : q.a = n at hM
    cases hM with
    | root g1 g2 g3 => rw [key h1 h2 g1 g2 hn]
    | step g1 g2 g3 _ => rw [← hn, h3] at g3; cases g3
  | @step q p L h1 h2 h3 h4 ih =>
    intro M hM
    generalize hn : q.a = n at hM
    cases hM with
    | root g1 g2 g3 => rw [← hn, h3] at g3; cases g3
    | step g1 g2 g3 g4 =>
      have e := key h1 h2 g1 g2 hn
      subst e
      rw [h3] at g3
      cases g3
      rw [ih g4]
theorem Path.ne {rs : Rows N} {n : N} {L : List (N × Int)} (h : Path rs n L) : L ≠ [] := by
  cases h with
  | root => simp
  | step => simp
theorem Path.last {rs : Rows N} {n : N} {L : List (N × Int)} (h : Path rs n L) : ∃ q ∈ rs, q.s = 0 ∧ q.a = n ∧ ((parent rs n = none ∧ L = [(n, q.k)]) ∨ ∃ p M, parent rs n = some p ∧ Path rs p M ∧ L = M ++ [(n, q.k)]) := by
  cases h with
  | root h1 h2 h3 => exact ⟨_, h1, h2, rfl, .inl ⟨h3, rfl⟩⟩
  | step h1 h2 h3 h4 => exact ⟨_, h1, h2, rfl, .inr ⟨_, _, h3, h4, rfl⟩⟩
abbrev rk (L : List (N × Int)) : List Int := L.map (·.2)
/-- the ranks tell the name -/
theorem Path.inj {rs : Rows N} (G : Good rs) : ∀ {n : N} {L : List (N × Int)}, Path rs n L → ∀ {m M}, Path rs m M → rk L = rk M → n = m := by
  intro n L h
  induction h with
  | @root q h1 h2 h3 =>
    intro m M hM e
    obtain ⟨q', g1, g2, g3, g4⟩ := hM.last
    rcases g4 with ⟨g4, g5⟩ | ⟨p, M', g4, g5, g6⟩
    · subst g5
      have ek : q.k = q'.k := by simpa [rk] using e
      rw [← g3]
      rw [G.or2 q h1 q' g1 h2 g2 (by rw [h3, g3, g4]) ek]
    · subst g6
      have := congrArg List.length e
      have h5 : 0 < M'.length := List.length_pos_iff.mpr g5.ne
      simp only [rk, List.length_map, List.length_append, List.length_cons, List.length_nil] at this
      omega
  | @step q p L h1 h2 h3 h4 ih =>
    intro m M hM e
    obtain ⟨q', g1, g2, g3, g4⟩ := hM.last
    rcases g4 with ⟨g4, g5⟩ | ⟨p', M', g4, g5, g6⟩
    · subst g5
      have := congrArg List.length e
      have h5 : 0 < L.length := List.length_pos_iff.mpr h4.ne
      simp only [rk, List.length_map, List.length_append, List.length_cons, List.length_nil] at this
      omega
    · subst g6
      simp only [rk, List.map_append, List.map_cons, List.map_nil] at e
      obtain ⟨e1, e2⟩ := List.append_inj' e rfl
      have ek : q.k = q'.k := by simpa using e2
      have ep := ih g5 e1
      rw [← g3]
      rw [G.or2 q h1 q' g1 h2 g2 (by rw [h3, g3, g4, ep]) ek]
/-- a beginning of a line is a line -/
theorem Path.prefix {rs : Rows N} (G : Good rs) : ∀ {n : N} {L : List (N × Int)}, Path rs n L → ∀ j, 0 < j → j ≤ L.length → ∃ m, Path rs m (L.take j) := by
  intro n L h
  induction h with
  | @root q h1 h2 h3 =>
    intro j hj hl
    have : j = 1 := by simp at hl; omega
    subst this
    exact ⟨_, .root h1 h2 h3⟩
  | @step q p L h1 h2 h3 h4 ih =>
    intro j hj hl
    rw [List.length_append, List.length_singleton] at hl
    by_cases hjl : j ≤ L.length
    · obtain ⟨m, hm⟩ := ih j hj hjl
      exact ⟨m, by rw [List.take_append_of_le_length hjl]; exact hm⟩
    · have : j = L.length + 1 := by omega
      subst this
      exact ⟨_, by rw [List.take_of_length_le (by simp)]; exact .step h1 h2 h3 h4⟩
/-- every smaller rank is there too -/
theorem Path.left {rs : Rows N} (G : Good rs) {n : N} {L : List (N × Int)} {k : Int} {x : N} (h : Path rs n (L ++ [(x, k)])) {c : Int} (h0 : 0 ≤ c) (hc : c ≤ k) : ∃ m, Path rs m (L ++ [(m, c)]) := by
  obtain ⟨q, h1, h2, h3, h4⟩ := h.last
  have ek : q.k = k ∧ ((parent rs n = none ∧ L = []) ∨ ∃ p, parent rs n = some p ∧ Path rs p L) := by
    rcases h4 with ⟨h4, h5⟩ | ⟨p, M, h4, h5, h6⟩
    · cases L with
      | nil => simp at h5; exact ⟨h5.2.symm, .inl ⟨h4, rfl⟩⟩
      | cons y t => have := congrArg List.length h5; simp at this
    · obtain ⟨e1, e2⟩ := List.append_inj' h6 rfl
      simp at e2
      exact ⟨e2.2.symm, .inr ⟨p, h4, by rw [e1]; exact h5⟩⟩
  obtain ⟨ek, hL⟩ := ek
  have hlen := G.or1 q h1 h2
  have hS : ∀ y ∈ jsibs rs (parent rs q.a), y ∈ rs ∧ y.s = 0 ∧ parent rs y.a = parent rs q.a := fun y hy => mem_jsibs.mp hy
  have hnd : (jsibs rs (parent rs q.a)).Nodup := by unfold jsibs; exact (G.nd.filter _).filter _
  obtain ⟨y, hy, hk⟩ := all_below (l := jsibs rs (parent rs q.a)) (·.k) hnd (fun y hy z hz e => by
    obtain ⟨y1, y2, y3⟩ := hS y hy
    obtain ⟨z1, z2, z3⟩ := hS z hz
    exact G.or2 y y1 z z1 y2 z2 (y3.trans z3.symm) e) (fun y hy => by
    obtain ⟨y1, y2, y3⟩ := hS y hy
    have := G.or1 y y1 y2
    rw [y3] at this
    exact ⟨G.k0 y y1, this⟩) c h0 (by omega)
  obtain ⟨y1, y2, y3⟩ := hS y hy
  refine ⟨y.a, ?_⟩
  rw [h3] at y3
  have hk : y.k = c := hk
  rcases hL with ⟨e1, e2⟩ | ⟨p, e1, e2⟩
  · subst e2
    have := Path.root y1 y2 (y3.trans e1)
    rw [hk] at this
    exact this
  · have := Path.step y1 y2 (y3.trans e1) e2
    rw [hk] at this
    exact this
theorem Path.nonneg {rs : Rows N} (G : Good rs) : ∀ {n : N} {L : List (N × Int)}, Path rs n L → ∀ x ∈ rk L, 0 ≤ x := by
  intro n L h
  induction h with
  | @root q h1 h2 h3 =>
    intro x hx
    simp [rk] at hx
    rw [hx]
    exact G.k0 q h1
  | @step q p L h1 h2 h3 h4 ih =>
    intro x hx
    simp only [rk, List.map_append, List.mem_append, List.map_cons, List.map_nil, List.mem_singleton] at hx
    rcases hx with hx | hx
    · exact ih x hx
    · rw [hx]
      exact G.k0 q h1

/-! ### the order of lists of numbers -/
theorem lex_cases : ∀ {X Y : List Int}, X < Y → (∃ r t, Y = X ++ r :: t) ∨ ∃ p a b s t, X = p ++ a :: s ∧ Y = p ++ b :: t ∧ a < b
  | [], [], h => absurd h (List.lt_irrefl _)
  | [], y :: t, _ => .inl ⟨y, t, rfl⟩
  | x :: s, [], h => absurd h (List.not_lt_nil _)
  | x :: s, y :: t, h => by
    rcases List.cons_lt_cons_iff.mp h with h2 | ⟨e, h2⟩
    · exact .inr ⟨[], x, y, s, t, rfl, rfl, h2⟩
    · subst e
      rcases lex_cases h2 with ⟨r, u, e⟩ | ⟨p, a, b, s', t', e1, e2, h3⟩
      · exact .inl ⟨r, u, by rw [e]; rfl⟩
      · exact .inr ⟨x :: p, a, b, s', t', by rw [e1]; rfl, by rw [e2]; rfl, h3⟩
theorem lex_pre : ∀ (X : List Int) (r : Int) (t : List Int), X < X ++ r :: t
  | [], r, t => List.nil_lt_cons _ _
  | x :: X, r, t => List.cons_lt_cons_iff.mpr (.inr ⟨rfl, lex_pre X r t⟩)
theorem lex_mid : ∀ (p : List Int) {a b : Int} (s t : List Int), a < b → p ++ a :: s < p ++ b :: t
  | [], a, b, s, t, h => List.cons_lt_cons_iff.mpr (.inl h)
  | x :: p, a, b, s, t, h => List.cons_lt_cons_iff.mpr (.inr ⟨rfl, lex_mid p s t h⟩)
/-- the next line behind X is X and 0, or a beginning of X with its last rank one more -/
theorem next_of {T : List Int → Prop} (pre : ∀ X Y, X ≠ [] → T (X ++ Y) → T X) (left : ∀ X k c, T (X ++ [k]) → 0 ≤ c → c ≤ k → T (X ++ [c])) (pos : ∀ X, T X → ∀ x ∈ X, 0 ≤ x) {X Y : List Int} (hX : T X) (hY : T Y) (hlt : X < Y)
    (no : ∀ Z, T Z → X < Z → Z < Y → False) : Y = X ++ [0] ∨ ∃ p a s, X = p ++ a :: s ∧ Y = p ++ [a + 1] := by
  rcases lex_cases hlt with ⟨r, t, e⟩ | ⟨p, a, b, s, t, e1, e2, h3⟩
  · left
    have hr : 0 ≤ r := pos Y hY r (by rw [e]; simp)
    have h1 : T (X ++ [r]) := pre (X ++ [r]) t (by simp) (by rw [List.append_assoc]; rw [e] at hY; exact hY)
    have h2 := left X r 0 h1 (Int.le_refl 0) hr
    refine Classical.byContradiction fun ne => no _ h2 (lex_pre X 0 []) ?_
    rw [e]
    by_cases h4 : (0 : Int) < r
    · exact lex_mid X [] t h4
    · have : r = 0 := by omega
      subst this
      cases t with
      | nil => exact absurd e ne
      | cons u t' =>
        have := lex_pre (X ++ [0]) u t'
        rwa [List.append_assoc] at this
  · right
    refine ⟨p, a, s, e1, ?_⟩
    have h1 : T (p ++ [b]) := pre (p ++ [b]) t (by simp) (by rw [List.append_assoc]; rw [e2] at hY; exact hY)
    have ha : 0 ≤ a := pos X hX a (by rw [e1]; simp)
    have h2 := left p b (a + 1) h1 (by omega) (by omega)
    refine Classical.byContradiction fun ne => no _ h2 (by rw [e1]; exact lex_mid p s [] (by omega)) ?_
    rw [e2]
    by_cases h4 : a + 1 < b
    · exact lex_mid p [] t h4
    · have : b = a + 1 := by omega
      subst this
      cases t with
      | nil => exact absurd e2 ne
      | cons u t' =>
        have := lex_pre (p ++ [a + 1]) u t'
        rwa [List.append_assoc] at this
end
end FR
end

section
set_option linter.all false
/-! Plain Lean: the forest of rows without a fault, and its pair rows. -/
namespace FR
section
variable {N : Type} [DecidableEq N]

/-- the different items, each at its first place -/
def keysOf (l : List N) : List N := l.foldl (fun acc x => if x ∈ acc then acc else acc ++ [x]) []
theorem keysOf_go (l : List N) : ∀ acc : List N, acc.Nodup → (l.foldl (fun acc x => if x ∈ acc then acc else acc ++ [x]) acc).Nodup ∧ ∀ y, y ∈ l.foldl (fun acc x => if x ∈ acc then acc else acc ++ [x]) acc ↔ y ∈ acc ∨ y ∈ l := by
  induction l with
  | nil => intro acc h; exact ⟨h, fun y => by simp⟩
  | cons x l ih =>
    intro acc h
    rw [List.foldl_cons]
    by_cases hx : x ∈ acc
    · rw [if_pos hx]
      obtain ⟨h1, h2⟩ := ih acc h
      refine ⟨h1, fun y => ?_⟩
      rw [h2, List.mem_cons]
      constructor
      · rintro (z | z)
        · exact .inl z
        · exact .inr (.inr z)
      · rintro (z | z | z)
        · exact .inl z
        · subst z; exact .inl hx
        · exact .inr z
    · rw [if_neg hx]
      obtain ⟨h1, h2⟩ := ih (acc ++ [x]) (by
        rw [List.nodup_append]
        refine ⟨h, by simp, fun a ha b hb e => ?_⟩
        rw [List.mem_singleton] at hb
        exact hx (by rw [← hb, ← e]; exact ha))
      refine ⟨h1, fun y => ?_⟩
      rw [h2, List.mem_append, List.mem_singleton, List.mem_cons, or_assoc]
theorem keysOf_nodup (l : List N) : (keysOf l).Nodup := (keysOf_go l [] List.nodup_nil).1
theorem mem_keysOf {l : List N} {y : N} : y ∈ keysOf l ↔ y ∈ l := by
  have := (keysOf_go l [] List.nodup_nil).2 y
  unfold keysOf
  rw [this]
  simp

def names (rs : Rows N) : List N := keysOf (rs.map (·.b))
def ranksOf (rs : Rows N) (n : N) : List Int := (lineOf rs n).map (·.k)
def worthOf (rs : Rows N) (n : N) : Int := ((lineOf rs n).getLast?.map (·.v)).getD 0
def order (rs : Rows N) : List N := (names rs).mergeSort fun x y => decide (ranksOf rs x ≤ ranksOf rs y)
/-- the rows of the forest: name, value, level -/
def forestOf (rs : Rows N) : List (N × Int × Nat) := (order rs).map fun n => (n, worthOf rs n, (lineOf rs n).length - 1)

/-- one row of the law's own pairs -/
def pstep (st : List (N × Int) × List Int × Rows N) (x : N × Int × Nat) : List (N × Int) × List Int × Rows N :=
  let counts := st.2.1.take (x.2.2 + 1) ++ List.replicate (60 - x.2.2) 0
  let line := st.1.take x.2.2 ++ [(x.1, counts.getD x.2.2 0)]
  (line, counts.set x.2.2 (counts.getD x.2.2 0 + 1), st.2.2 ++ line.zipIdx.map fun q => ⟨q.1.1, x.1, (x.2.2 : Int) - q.2, q.1.2, x.2.1⟩)
def pstart : List (N × Int) × List Int × Rows N := ([], List.replicate 61 0, [])
def pairsOf (xs : List (N × Int × Nat)) : Rows N := (xs.foldl pstep pstart).2.2

/-- what is known of a name -/
structure At (rs : Rows N) (n : N) (L : List (N × Int)) : Prop where
  path : Path rs n L
  rows : lineOf rs n = rowsOf n (worthOf rs n) L
  ranks : ranksOf rs n = rk L
  len : (lineOf rs n).length = L.length
theorem rowsOf_len (n : N) (v : Int) (L : List (N × Int)) : (rowsOf n v L).length = L.length := by simp [rowsOf]
theorem rowsOf_rk (n : N) (v : Int) (L : List (N × Int)) : (rowsOf n v L).map (·.k) = rk L := by
  unfold rowsOf rk
  rw [List.map_map]
  have e : ((fun r : Row N => r.k) ∘ fun q : (N × Int) × Nat => (⟨q.1.1, n, (L.length : Int) - 1 - q.2, q.1.2, v⟩ : Row N)) = (fun p : N × Int => p.2) ∘ Prod.fst := rfl
  rw [e, ← List.map_map, List.zipIdx_map_fst]
theorem rowsOf_last (n : N) (v : Int) {L : List (N × Int)} (h : L ≠ []) : ((rowsOf n v L).getLast?.map (·.v)).getD 0 = v := by
  cases e : (rowsOf n v L).getLast? with
  | none =>
    have := List.getLast?_eq_none_iff.mp e
    have h2 := rowsOf_len n v L
    rw [this] at h2
    exact absurd (List.length_eq_zero_iff.mp h2.symm) h
  | some r =>
    have := List.mem_of_getLast? e
    unfold rowsOf at this
    obtain ⟨q, _, rfl⟩ := List.mem_map.mp this
    rfl
theorem at_of {rs : Rows N} (G : Good rs) {n : N} (hn : n ∈ rs.map (·.b)) : ∃ L, At rs n L := by
  obtain ⟨r, hr, e⟩ := List.mem_map.mp hn
  obtain ⟨q, hq, h1, h2, h3⟩ := G.sb r hr
  have hqn : q.a = n := h1.trans e
  obtain ⟨L, hL, eL⟩ := path_all G _ q hq h3 rfl
  rw [hqn] at hL eL
  have ew : worthOf rs n = q.v := by
    unfold worthOf
    rw [eL]
    exact rowsOf_last n q.v hL.ne
  refine ⟨L, hL, by rw [ew]; exact eL, ?_, ?_⟩
  · unfold ranksOf
    rw [eL, rowsOf_rk]
  · rw [eL, rowsOf_len]
theorem path_at {rs : Rows N} (G : Good rs) {n : N} {L : List (N × Int)} (h : Path rs n L) : n ∈ rs.map (·.b) ∧ At rs n L := by
  obtain ⟨q, h1, h2, h3⟩ := h.self
  have hn : n ∈ rs.map (·.b) := List.mem_map.mpr ⟨q, h1, by rw [← (G.eq q h1).mp h2, h3]⟩
  obtain ⟨M, hM⟩ := at_of G hn
  have := hM.path.uniq G h
  subst this
  exact ⟨hn, hM⟩

/-! ### the order of the names -/
theorem order_perm (rs : Rows N) : (order rs).Perm (names rs) := List.mergeSort_perm _ _
theorem order_nodup (rs : Rows N) : (order rs).Nodup := (order_perm rs).nodup_iff.mpr (keysOf_nodup _)
theorem mem_order {rs : Rows N} {n : N} : n ∈ order rs ↔ n ∈ rs.map (·.b) := by
  rw [(order_perm rs).mem_iff]
  exact mem_keysOf
theorem order_sorted (rs : Rows N) : (order rs).Pairwise fun x y => ranksOf rs x ≤ ranksOf rs y := by
  have := List.pairwise_mergeSort (le := fun x y => decide (ranksOf rs x ≤ ranksOf rs y)) (fun a b c h1 h2 => by
    simp only [decide_eq_true_eq] at *
    exact List.le_trans h1 h2) (fun a b => by
    simp only [Bool.or_eq_true, decide_eq_true_eq]
    exact List.le_total _ _) (names rs)
  exact this.imp fun {a b} h => by simpa using h
theorem ranks_inj {rs : Rows N} (G : Good rs) {n m : N} (hn : n ∈ rs.map (·.b)) (hm : m ∈ rs.map (·.b)) (h : ranksOf rs n = ranksOf rs m) : n = m := by
  obtain ⟨L, hL⟩ := at_of G hn
  obtain ⟨M, hM⟩ := at_of G hm
  exact hL.path.inj G hM.path (by rw [← hL.ranks, ← hM.ranks, h])
theorem order_lt {rs : Rows N} (G : Good rs) {i j : Nat} {x y : N} (hi : (order rs)[i]? = some x) (hj : (order rs)[j]? = some y) (h : i < j) : ranksOf rs x < ranksOf rs y := by
  obtain ⟨hi1, hi2⟩ := List.getElem?_eq_some_iff.mp hi
  obtain ⟨hj1, hj2⟩ := List.getElem?_eq_some_iff.mp hj
  have h1 := List.pairwise_iff_getElem.mp (order_sorted rs) i j hi1 hj1 h
  have h2 := List.pairwise_iff_getElem.mp (List.nodup_iff_pairwise_ne.mp (order_nodup rs)) i j hi1 hj1 h
  rw [hi2, hj2] at h1 h2
  rcases Classical.em (ranksOf rs x < ranksOf rs y) with h3 | h3
  · exact h3
  · exact absurd (ranks_inj G (mem_order.mp (List.mem_of_getElem? hi)) (mem_order.mp (List.mem_of_getElem? hj)) (List.le_antisymm h1 (List.not_lt.mp h3))) h2
/-- a list of ranks is that of a name -/
def Told (rs : Rows N) (X : List Int) : Prop := ∃ n L, Path rs n L ∧ rk L = X
theorem told_pre {rs : Rows N} (G : Good rs) (X Y : List Int) (h : X ≠ []) (t : Told rs (X ++ Y)) : Told rs X := by
  obtain ⟨n, L, hL, e⟩ := t
  have hl := congrArg List.length e
  simp only [rk, List.length_map, List.length_append] at hl
  obtain ⟨m, hm⟩ := hL.prefix G X.length (List.length_pos_iff.mpr h) (by omega)
  refine ⟨m, _, hm, ?_⟩
  show (L.take X.length).map (·.2) = X
  rw [List.map_take]
  have e' : L.map (·.2) = X ++ Y := e
  rw [e', List.take_left]
theorem told_left {rs : Rows N} (G : Good rs) (X : List Int) (k c : Int) (t : Told rs (X ++ [k])) (h0 : 0 ≤ c) (hc : c ≤ k) : Told rs (X ++ [c]) := by
  obtain ⟨n, L, hL, e⟩ := t
  have hne := hL.ne
  obtain ⟨M, y, eL⟩ : ∃ M y, L = M ++ [y] := ⟨L.dropLast, L.getLast hne, (List.dropLast_concat_getLast hne).symm⟩
  subst eL
  obtain ⟨y1, y2⟩ := y
  simp only [rk, List.map_append, List.map_cons, List.map_nil] at e
  obtain ⟨e1, e2⟩ := List.append_inj' e rfl
  have e2 : y2 = k := by simpa using e2
  obtain ⟨m, hm⟩ := hL.left G h0 (by omega : c ≤ y2)
  refine ⟨m, _, hm, ?_⟩
  simp only [rk, List.map_append, List.map_cons, List.map_nil]
  rw [e1]
theorem told_pos {rs : Rows N} (G : Good rs) (X : List Int) (t : Told rs X) : ∀ x ∈ X, 0 ≤ x := by
  obtain ⟨n, L, hL, e⟩ := t
  rw [← e]
  exact hL.nonneg G
/-- the first name is a root of rank 0 -/
theorem order_first {rs : Rows N} (G : Good rs) {x : N} (h : (order rs)[0]? = some x) : At rs x [(x, 0)] := by
  obtain ⟨L, hL⟩ := at_of G (mem_order.mp (List.mem_of_getElem? h))
  -- [0] is told
  have t0 : Told rs [0] := by
    cases e : L with
    | nil => exact absurd e hL.path.ne
    | cons y t =>
      have h1 : Told rs ([y.2] ++ rk t) := ⟨x, L, hL.path, by rw [e]; rfl⟩
      have h2 := told_pre G [y.2] _ (by simp) h1
      have h3 := told_pos G _ h2 y.2 (by simp)
      have := told_left G [] y.2 0 h2 (Int.le_refl 0) h3
      exact this
  obtain ⟨m, M, hM, eM⟩ := t0
  obtain ⟨hm, aM⟩ := path_at G hM
  have hme := mem_order.mpr hm
  obtain ⟨j, hj⟩ := List.mem_iff_getElem?.mp hme
  have exm : x = m := by
    by_cases hj0 : j = 0
    · subst hj0
      rw [h] at hj
      exact Option.some.inj hj
    · have h1 := order_lt G h hj (by omega)
      rw [aM.ranks, eM, hL.ranks] at h1
      cases e : rk L with
      | nil =>
        have : L = [] := by simpa [rk] using e
        exact absurd this hL.path.ne
      | cons y t =>
        rw [e] at h1
        have hy := hL.path.nonneg G y (by rw [e]; exact List.mem_cons_self)
        rcases List.cons_lt_cons_iff.mp h1 with h2 | ⟨_, h2⟩
        · omega
        · exact absurd h2 (List.not_lt_nil _)
  subst exm
  have hl := congrArg List.length eM
  simp only [rk, List.length_map, List.length_singleton] at hl
  obtain ⟨q, q1, q2, q3, q4⟩ := hM.last
  have : M = [(x, 0)] := by
    rcases q4 with ⟨_, q5⟩ | ⟨p, M', _, q5, q6⟩
    · rw [q5] at eM ⊢
      simp [rk] at eM
      rw [eM]
    · have h5 : 0 < M'.length := List.length_pos_iff.mpr q5.ne
      rw [q6, List.length_append, List.length_singleton] at hl
      omega
  rw [← this]
  exact aM
/-- the next name: its line is a beginning of the one before, and itself -/
theorem order_next {rs : Rows N} (G : Good rs) {i : Nat} {x y : N} (hx : (order rs)[i]? = some x) (hy : (order rs)[i + 1]? = some y) {L : List (N × Int)} (aL : At rs x L) :
    ∃ j c, j ≤ L.length ∧ At rs y (L.take j ++ [(y, c)]) ∧ ((j = L.length ∧ c = 0) ∨ ∃ a, (rk L)[j]? = some a ∧ c = a + 1) := by
  obtain ⟨M, aM⟩ := at_of G (mem_order.mp (List.mem_of_getElem? hy))
  have hlt := order_lt G hx hy (by omega)
  have no : ∀ Z, Told rs Z → rk L < Z → Z < rk M → False := by
    rintro Z ⟨m, K, hK, e⟩ h1 h2
    obtain ⟨hm, aK⟩ := path_at G hK
    obtain ⟨j, hj⟩ := List.mem_iff_getElem?.mp (mem_order.mpr hm)
    rw [← e, ← aK.ranks] at h1 h2
    rw [← aL.ranks] at h1
    rw [← aM.ranks] at h2
    rcases Nat.lt_trichotomy j i with z | z | z
    · exact List.lt_irrefl _ (List.lt_trans h1 (order_lt G hj hx z))
    · subst z
      rw [hx] at hj
      rw [Option.some.inj hj] at h1
      exact List.lt_irrefl _ h1
    · rcases Nat.lt_or_ge (i + 1) j with w | w
      · exact List.lt_irrefl _ (List.lt_trans h2 (order_lt G hy hj w))
      · have : j = i + 1 := by omega
        subst this
        rw [hy] at hj
        rw [Option.some.inj hj] at h2
        exact List.lt_irrefl _ h2
  have hn := next_of (told_pre G) (told_left G) (told_pos G) (X := rk L) (Y := rk M) ⟨x, L, aL.path, rfl⟩ ⟨y, M, aM.path, rfl⟩ (by rw [← aL.ranks, ← aM.ranks]; exact hlt) no
  -- the shape of M
  obtain ⟨q, q1, q2, q3, q4⟩ := aM.path.last
  have shape : ∀ (j : Nat) (c : Int), j ≤ L.length → rk M = (rk L).take j ++ [c] → M = L.take j ++ [(y, c)] := by
    intro j c hj e
    rcases q4 with ⟨_, q5⟩ | ⟨p, M', q4, q5, q6⟩
    · rw [q5] at e ⊢
      have hl := congrArg List.length e
      simp only [rk, List.length_map, List.length_singleton, List.length_append, List.length_take] at hl
      have : j = 0 := by omega
      subst this
      simp [rk] at e
      simp [e]
    · rw [q6] at e ⊢
      simp only [rk, List.map_append, List.map_cons, List.map_nil] at e
      obtain ⟨e1, e2⟩ := List.append_inj' e rfl
      have e2 : q.k = c := by simpa using e2
      have hl := congrArg List.length e1
      have h5 : 0 < M'.length := List.length_pos_iff.mpr q5.ne
      simp only [List.length_map, List.length_take] at hl
      obtain ⟨m, hm⟩ := aL.path.prefix G j (by omega) hj
      have e3 : rk M' = rk (L.take j) := by
        show M'.map (·.2) = (L.take j).map (·.2)
        rw [List.map_take]
        exact e1
      have := q5.inj G hm e3
      subst this
      rw [q5.uniq G hm, e2]
  rcases hn with e | ⟨p, a, s, e1, e2⟩
  · have hM := shape L.length 0 (Nat.le_refl _) (by rw [e, List.take_of_length_le (by simp [rk])])
    exact ⟨L.length, 0, Nat.le_refl _, by rw [← hM]; exact aM, .inl ⟨rfl, rfl⟩⟩
  · have hl := congrArg List.length e1
    simp only [rk, List.length_map, List.length_append, List.length_cons] at hl
    have hM := shape p.length (a + 1) (by omega) (by rw [e2, e1, List.take_left])
    refine ⟨p.length, a + 1, by omega, by rw [← hM]; exact aM, .inr ⟨a, ?_, rfl⟩⟩
    rw [e1, List.getElem?_append_right (Nat.le_refl _), Nat.sub_self]
    rfl

/-! ### the law's own pairs of that forest -/
def countsOf (L : List (N × Int)) : List Int := (rk L).map (· + 1) ++ List.replicate (61 - L.length) 0
theorem counts_step (L : List (N × Int)) (y : N) (j : Nat) (c : Int) (hj : j ≤ L.length) (hl : L.length ≤ 60) (h : (j = L.length ∧ c = 0) ∨ ∃ a, (rk L)[j]? = some a ∧ c = a + 1) :
    ((countsOf L).take (j + 1) ++ List.replicate (60 - j) 0).getD j 0 = c ∧ ((countsOf L).take (j + 1) ++ List.replicate (60 - j) 0).set j (c + 1) = countsOf (L.take j ++ [(y, c)]) := by
  have key : (countsOf L).take (j + 1) = ((rk L).take j).map (· + 1) ++ [c] := by
    unfold countsOf
    have e1 : ((rk L).map (· + 1)).length = L.length := by simp [rk]
    rcases h with ⟨h1, h2⟩ | ⟨a, h1, h2⟩
    · subst h1 h2
      have e2 : List.replicate (61 - L.length) (0 : Int) = 0 :: List.replicate (60 - L.length) 0 := by
        rw [← List.replicate_succ]
        congr 1
        omega
      have e3 : (rk L).take L.length = rk L := List.take_of_length_le (by simp [rk])
      rw [e2, e3]
      have e4 : (rk L).map (· + 1) ++ (0 : Int) :: List.replicate (60 - L.length) 0 = ((rk L).map (· + 1) ++ [0]) ++ List.replicate (60 - L.length) 0 := by simp
      rw [e4, List.take_left' (by rw [List.length_append, e1]; rfl)]
    · have h3 : j < (rk L).length := (List.getElem?_eq_some_iff.mp h1).1
      have h4 : j < L.length := by simpa [rk] using h3
      rw [List.take_append_of_le_length (by omega), ← List.map_take, List.take_add_one, h1, List.map_append]
      simp [h2]
  have e3 : (((rk L).take j).map (· + 1)).length = j := by
    simp [rk]
    omega
  rw [key]
  constructor
  · rw [List.append_assoc, List.getD_eq_getElem?_getD, List.getElem?_append_right (by omega), e3, Nat.sub_self]
    rfl
  · rw [List.append_assoc, List.set_append_right _ _ (by omega), e3, Nat.sub_self]
    unfold countsOf
    have e4 : (L.take j ++ [(y, c)]).length = j + 1 := by
      simp
      omega
    rw [e4]
    simp only [rk, List.map_append, List.map_take, List.map_cons, List.map_nil]
    have e5 : 61 - (j + 1) = 60 - j := by omega
    rw [e5, List.append_assoc]
    rfl
theorem step_at {rs : Rows N} {y : N} {L : List (N × Int)} {found : Rows N} {j : Nat} {c : Int} (hj : j ≤ L.length) (hl : L.length ≤ 60) (aM : At rs y (L.take j ++ [(y, c)])) (h : (j = L.length ∧ c = 0) ∨ ∃ a, (rk L)[j]? = some a ∧ c = a + 1) :
    pstep (L, countsOf L, found) (y, worthOf rs y, (lineOf rs y).length - 1) = (L.take j ++ [(y, c)], countsOf (L.take j ++ [(y, c)]), found ++ lineOf rs y) := by
  have el : (lineOf rs y).length - 1 = j := by
    rw [aM.len, List.length_append, List.length_take, List.length_singleton]
    omega
  obtain ⟨c1, c2⟩ := counts_step L y j c hj hl h
  unfold pstep
  simp only [el, c1, c2]
  have e : lineOf rs y = (L.take j ++ [(y, c)]).zipIdx.map fun q => (⟨q.1.1, y, (j : Int) - q.2, q.1.2, worthOf rs y⟩ : Row N) := by
    conv => lhs; rw [aM.rows]
    unfold rowsOf
    refine List.map_congr_left fun q _ => ?_
    have e4 : (L.take j ++ [(y, c)]).length = j + 1 := by
      simp
      omega
    rw [e4, Row.mk.injEq]
    exact ⟨rfl, rfl, by omega, rfl, rfl⟩
  rw [← e]
theorem step_first {rs : Rows N} {y : N} (aM : At rs y [(y, 0)]) : pstep pstart (y, worthOf rs y, (lineOf rs y).length - 1) = ([(y, 0)], countsOf [(y, 0)], lineOf rs y) := by
  have el : (lineOf rs y).length - 1 = 0 := by rw [aM.len]; rfl
  have e : lineOf rs y = [(⟨y, y, 0, 0, worthOf rs y⟩ : Row N)] := by
    conv => lhs; rw [aM.rows]
    rfl
  unfold pstep pstart
  simp only [el]
  rw [e]
  rfl
theorem fold_at {rs : Rows N} (G : Good rs) (hl : rs.length ≤ 60) : ∀ (i : Nat) (x : N), (order rs)[i]? = some x → ∃ L, At rs x L ∧ ((forestOf rs).take (i + 1)).foldl pstep pstart = (L, countsOf L, ((order rs).take (i + 1)).flatMap (lineOf rs)) := by
  intro i
  induction i with
  | zero =>
    intro x hx
    have a := order_first G hx
    refine ⟨_, a, ?_⟩
    cases e : order rs with
    | nil => rw [e] at hx; cases hx
    | cons y t =>
      rw [e] at hx
      have : y = x := Option.some.inj hx
      subst this
      unfold forestOf
      rw [e]
      simp only [List.map_cons, List.take_succ_cons, List.take_zero, List.foldl_cons, List.foldl_nil, List.flatMap_cons, List.flatMap_nil, List.append_nil]
      exact step_first a
  | succ i ih =>
    intro y hy
    have hi : i + 1 < (order rs).length := (List.getElem?_eq_some_iff.mp hy).1
    obtain ⟨x, hx⟩ : ∃ x, (order rs)[i]? = some x := ⟨_, List.getElem?_eq_getElem (by omega)⟩
    obtain ⟨L, aL, eL⟩ := ih x hx
    obtain ⟨j, c, hj, aM, h⟩ := order_next G hx hy aL
    have hL : L.length ≤ 60 := by
      rw [← aL.len, (lineOf_perm rs x).length_eq]
      exact Nat.le_trans (List.length_filter_le _ _) hl
    refine ⟨_, aM, ?_⟩
    have ef : (forestOf rs)[i + 1]? = some (y, worthOf rs y, (lineOf rs y).length - 1) := by
      unfold forestOf
      rw [List.getElem?_map, hy]
      rfl
    rw [List.take_add_one, ef, List.foldl_append, eL]
    rw [List.take_add_one (i := i + 1) (l := order rs), hy, List.flatMap_append]
    simp only [Option.toList_some, List.foldl_cons, List.foldl_nil, List.flatMap_cons, List.flatMap_nil, List.append_nil]
    exact step_at hj hL aM h
theorem flat_perm {rs : Rows N} (G : Good rs) : ((order rs).flatMap (lineOf rs)).Perm rs := by
  refine perm_of ?_ G.nd fun r => ?_
  · rw [List.nodup_iff_pairwise_ne, List.pairwise_flatMap]
    refine ⟨fun a _ => List.nodup_iff_pairwise_ne.mp (lineOf_nodup G.nd a), ?_⟩
    refine (List.nodup_iff_pairwise_ne.mp (order_nodup rs)).imp fun {a b} hab x hx y hy e => ?_
    exact hab ((mem_lineOf.mp hx).2.symm.trans ((congrArg (·.b) e).trans (mem_lineOf.mp hy).2))
  · rw [List.mem_flatMap]
    constructor
    · rintro ⟨a, _, h⟩
      exact (mem_lineOf.mp h).1
    · intro h
      exact ⟨r.b, mem_order.mpr (List.mem_map.mpr ⟨r, h, rfl⟩), mem_lineOf.mpr ⟨h, rfl⟩⟩
/-- THE PAIR ROWS OF THE FOREST ARE THE ROWS -/
theorem pairs_perm {rs : Rows N} (G : Good rs) (hl : rs.length ≤ 60) : (pairsOf (forestOf rs)).Perm rs := by
  have key : pairsOf (forestOf rs) = (order rs).flatMap (lineOf rs) := by
    unfold pairsOf
    by_cases h0 : (order rs).length = 0
    · have e : order rs = [] := List.length_eq_zero_iff.mp h0
      unfold forestOf
      rw [e]
      rfl
    · obtain ⟨x, hx⟩ : ∃ x, (order rs)[(order rs).length - 1]? = some x := ⟨_, List.getElem?_eq_getElem (by omega)⟩
      obtain ⟨L, _, e⟩ := fold_at G hl _ x hx
      have e1 : (order rs).length - 1 + 1 = (order rs).length := by omega
      rw [e1] at e
      have e2 : (forestOf rs).length = (order rs).length := by simp [forestOf]
      rw [List.take_of_length_le (by omega), List.take_of_length_le (by omega)] at e
      rw [e]
  rw [key]
  exact flat_perm G
/-- levels as a forest asks them -/
def levelsOk (xs : List (N × Int × Nat)) : Prop := ∀ (i : Nat) (x : N × Int × Nat), xs[i]? = some x → (i = 0 → x.2.2 = 0) ∧ ∀ (j : Nat) (y : N × Int × Nat), i = j + 1 → xs[j]? = some y → x.2.2 ≤ y.2.2 + 1
theorem forest_levels {rs : Rows N} (G : Good rs) : levelsOk (forestOf rs) := by
  intro i x hx
  unfold forestOf at hx
  rw [List.getElem?_map] at hx
  cases e : (order rs)[i]? with
  | none => rw [e] at hx; cases hx
  | some n =>
    rw [e] at hx
    have ex := Option.some.inj hx
    subst ex
    refine ⟨fun h0 => ?_, fun j y hij hy => ?_⟩
    · subst h0
      have a := order_first G e
      show (lineOf rs n).length - 1 = 0
      rw [a.len]
      rfl
    · subst hij
      unfold forestOf at hy
      rw [List.getElem?_map] at hy
      cases e2 : (order rs)[j]? with
      | none => rw [e2] at hy; cases hy
      | some m =>
        rw [e2] at hy
        have ey := Option.some.inj hy
        subst ey
        obtain ⟨L, aL⟩ := at_of G (mem_order.mp (List.mem_of_getElem? e2))
        obtain ⟨t, c, ht, aM, _⟩ := order_next G e2 e aL
        show (lineOf rs n).length - 1 ≤ (lineOf rs m).length - 1 + 1
        rw [aL.len, aM.len, List.length_append, List.length_take, List.length_singleton]
        have := List.length_pos_iff.mpr aL.path.ne
        omega
theorem forest_names (rs : Rows N) : (forestOf rs).map (·.1) = order rs := by
  unfold forestOf
  rw [List.map_map]
  exact List.map_id' _
theorem worth_in {rs : Rows N} (G : Good rs) {n : N} (hn : n ∈ rs.map (·.b)) : ∃ r ∈ rs, worthOf rs n = r.v ∧ r.b = n := by
  obtain ⟨L, aL⟩ := at_of G hn
  have hne : lineOf rs n ≠ [] := fun e => by
    have := aL.len
    rw [e] at this
    exact aL.path.ne (List.length_eq_zero_iff.mp this.symm)
  have h1 := List.getLast_mem hne
  obtain ⟨h2, h3⟩ := mem_lineOf.mp h1
  refine ⟨_, h2, ?_, h3⟩
  unfold worthOf
  rw [List.getLast?_eq_some_getLast hne]
  rfl
end
end FR
end

section
set_option linter.all false
/-! Plain Lean: rows that are right by themselves: drawn, mixed, spoiled. -/
namespace FR
section
variable {N : Type} [DecidableEq N]

theorem erase_perm {α : Type} {x : α} : ∀ {l : List α} {i : Nat}, l[i]? = some x → l.Perm (x :: l.eraseIdx i)
  | [], i, h => by simp at h
  | y :: l, 0, h => by
    have : y = x := Option.some.inj h
    subst this
    exact List.Perm.refl _
  | y :: l, i + 1, h => ((erase_perm (l := l) (i := i) h).cons y).trans (List.Perm.swap x y _)
theorem set_perm {α : Type} {x y : α} : ∀ {l : List α} {i : Nat}, l[i]? = some x → (l.set i y).Perm (y :: l.eraseIdx i)
  | [], i, h => by simp at h
  | z :: l, 0, h => List.Perm.refl _
  | z :: l, i + 1, h => ((set_perm (l := l) (i := i) h).cons z).trans (List.Perm.swap y z _)

def Apart (rs : Rows N) : Prop := rs.Pairwise fun r q => ¬ (r.a = q.a ∧ r.b = q.b)
theorem Apart.perm {rs qs : Rows N} (h : Apart rs) (p : rs.Perm qs) : Apart qs := (p.pairwise_iff fun h e => h ⟨e.1.symm, e.2.symm⟩).mp h
/-- a row by itself, its names in a pool -/
structure RowOk (pool : List N) (r : Row N) : Prop where
  a : r.a ∈ pool
  b : r.b ∈ pool
  s0 : 0 ≤ r.s
  k0 : 0 ≤ r.k
  eq : r.s = 0 ↔ r.a = r.b
  lo : -(10 ^ 30) ≤ r.v
  hi : r.v ≤ 10 ^ 30
structure Wf (pool : List N) (rs : Rows N) : Prop where
  ap : Apart rs
  row : ∀ r ∈ rs, RowOk pool r
theorem Wf.perm {pool : List N} {rs qs : Rows N} (h : Wf pool rs) (p : rs.Perm qs) : Wf pool qs := ⟨h.ap.perm p, fun r hr => h.row r (p.mem_iff.mpr hr)⟩
theorem Wf.ok {pool : List N} {rs : Rows N} (h : Wf pool rs) : Ok rs := by
  refine ⟨fun i j r q hi hj h1 h2 => ?_, fun r hr => (h.row r hr).s0, fun r hr => (h.row r hr).k0, fun r hr => (h.row r hr).eq⟩
  obtain ⟨i1, i2⟩ := List.getElem?_eq_some_iff.mp hi
  obtain ⟨j1, j2⟩ := List.getElem?_eq_some_iff.mp hj
  have hp := List.pairwise_iff_getElem.mp h.ap
  rcases Nat.lt_trichotomy i j with y | y | y
  · have := hp i j i1 j1 y
    rw [i2, j2] at this
    exact absurd ⟨h1, h2⟩ this
  · exact y
  · have := hp j i j1 i1 y
    rw [i2, j2] at this
    exact absurd ⟨h1.symm, h2.symm⟩ this
theorem Wf.erase {pool : List N} {rs : Rows N} (h : Wf pool rs) {i : Nat} {r : Row N} (hi : rs[i]? = some r) : Wf pool (rs.eraseIdx i) := by
  have := h.perm (erase_perm hi)
  exact ⟨(List.pairwise_cons.mp this.ap).2, fun q hq => this.row q (List.mem_cons_of_mem _ hq)⟩
/-- one row changed, its names as they were -/
theorem Wf.setSame {pool : List N} {rs : Rows N} (h : Wf pool rs) {i : Nat} {r q : Row N} (hi : rs[i]? = some r) (hq : RowOk pool q) (h1 : q.a = r.a) (h2 : q.b = r.b) : Wf pool (rs.set i q) := by
  have := h.perm (erase_perm hi)
  have e : Wf pool (q :: rs.eraseIdx i) := by
    refine ⟨List.pairwise_cons.mpr ⟨fun x hx => ?_, (List.pairwise_cons.mp this.ap).2⟩, fun x hx => ?_⟩
    · rw [h1, h2]
      exact (List.pairwise_cons.mp this.ap).1 x hx
    · rcases List.mem_cons.mp hx with e | hx
      · rw [e]; exact hq
      · exact this.row x (List.mem_cons_of_mem _ hx)
  exact e.perm (set_perm hi).symm
/-- one row changed to new names -/
theorem Wf.setNew {pool : List N} {rs : Rows N} (h : Wf pool rs) {i : Nat} {r q : Row N} (hi : rs[i]? = some r) (hq : RowOk pool q) (hn : ∀ x ∈ rs, ¬ (q.a = x.a ∧ q.b = x.b)) : Wf pool (rs.set i q) := by
  have := h.perm (erase_perm hi)
  have e : Wf pool (q :: rs.eraseIdx i) := by
    refine ⟨List.pairwise_cons.mpr ⟨fun x hx => hn x ((erase_perm hi).mem_iff.mpr (List.mem_cons_of_mem _ hx)), (List.pairwise_cons.mp this.ap).2⟩, fun x hx => ?_⟩
    rcases List.mem_cons.mp hx with e | hx
    · rw [e]; exact hq
    · exact this.row x (List.mem_cons_of_mem _ hx)
  exact e.perm (set_perm hi).symm
theorem Wf.insert {pool : List N} {rs : Rows N} (h : Wf pool rs) {i : Nat} {q : Row N} (hi : i ≤ rs.length) (hq : RowOk pool q) (hn : ∀ x ∈ rs, ¬ (q.a = x.a ∧ q.b = x.b)) : Wf pool (rs.insertIdx i q) := by
  have e : Wf pool (q :: rs) := by
    refine ⟨List.pairwise_cons.mpr ⟨hn, h.ap⟩, fun x hx => ?_⟩
    rcases List.mem_cons.mp hx with e | hx
    · rw [e]; exact hq
    · exact h.row x hx
  exact e.perm (List.perm_insertIdx q rs hi).symm

/-! ### the law's own pairs of drawn rows -/
structure PInv (xs : List (N × Int × Nat)) (i : Nat) (st : List (N × Int) × List Int × Rows N) : Prop where
  cl : st.2.1.length = 61
  c0 : ∀ c ∈ st.2.1, 0 ≤ c
  ln : (st.1.map (·.1)).Nodup
  lk : ∀ q ∈ st.1, 0 ≤ q.2
  lm : ∀ q ∈ st.1, q.1 ∈ (xs.take i).map (·.1)
  ll : st.1.length ≤ i
  lv : ∀ (j : Nat) (y : N × Int × Nat), i = j + 1 → xs[j]? = some y → st.1.length = y.2.2 + 1
  wf : Wf ((xs.take i).map (·.1)) st.2.2
  fl : st.2.2.length ≤ i * 60
theorem pstep_inv {xs : List (N × Int × Nat)} (hl : xs.length ≤ 60) (hn : (xs.map (·.1)).Nodup) (hv : ∀ x ∈ xs, -(10 ^ 30) ≤ x.2.1 ∧ x.2.1 ≤ 10 ^ 30) (hlev : levelsOk xs) {i : Nat} {x : N × Int × Nat} (hx : xs[i]? = some x) {st : List (N × Int) × List Int × Rows N} (I : PInv xs i st) :
    x.2.2 ≤ st.1.length ∧ PInv xs (i + 1) (pstep st x) := by
  obtain ⟨line, counts, found⟩ := st
  obtain ⟨n, v, l⟩ := x
  obtain ⟨cl, c0, ln, lk, lm, ll, lv, wf, fl⟩ := I
  simp only at cl c0 ln lk lm ll lv wf fl
  have hi : i < xs.length := (List.getElem?_eq_some_iff.mp hx).1
  have hlv := hlev i (n, v, l) hx
  have hle : l ≤ line.length := by
    cases i with
    | zero =>
      have := hlv.1 rfl
      simp only at this
      omega
    | succ j =>
      obtain ⟨y, hy⟩ : ∃ y, xs[j]? = some y := ⟨_, List.getElem?_eq_getElem (by omega)⟩
      have h1 := lv j y rfl hy
      have h2 := hlv.2 j y rfl hy
      simp only at h2
      omega
  refine ⟨hle, ?_⟩
  have e1 : xs.take (i + 1) = xs.take i ++ [(n, v, l)] := by
    rw [List.take_add_one, hx]
    rfl
  have en : ((xs.take (i + 1)).map (·.1)) = (xs.take i).map (·.1) ++ [n] := by rw [e1]; simp
  have hnot : n ∉ (xs.take i).map (·.1) := by
    have h1 : ((xs.take (i + 1)).map (·.1)).Nodup := (List.Sublist.map _ (List.take_sublist (i + 1) xs)).nodup hn
    rw [en, List.nodup_append] at h1
    intro z
    exact h1.2.2 n z n (by simp) rfl
  -- the counts
  have k1 : ∀ c ∈ counts.take (l + 1) ++ List.replicate (60 - l) 0, 0 ≤ c := by
    intro c hc
    rcases List.mem_append.mp hc with h | h
    · exact c0 c (List.mem_of_mem_take h)
    · rw [List.eq_of_mem_replicate h]
      exact Int.le_refl 0
  have k2 : (counts.take (l + 1) ++ List.replicate (60 - l) 0).length = 61 := by
    simp [cl]
    omega
  have hc : 0 ≤ (counts.take (l + 1) ++ List.replicate (60 - l) 0).getD l 0 := by
    rw [List.getD_eq_getElem?_getD]
    cases e : (counts.take (l + 1) ++ List.replicate (60 - l) 0)[l]? with
    | none => exact Int.le_refl 0
    | some c => exact k1 c (List.mem_of_getElem? e)
  generalize hcs : counts.take (l + 1) ++ List.replicate (60 - l) 0 = cs at k1 k2 hc
  generalize hcc : cs.getD l 0 = c at hc
  have est : pstep (line, counts, found) (n, v, l) = (line.take l ++ [(n, c)], cs.set l (c + 1), found ++ (line.take l ++ [(n, c)]).zipIdx.map fun q => (⟨q.1.1, n, (l : Int) - q.2, q.1.2, v⟩ : Row N)) := by
    unfold pstep
    simp only [hcs, hcc]
  rw [est]
  have ell : (line.take l ++ [(n, c)]).length = l + 1 := by
    simp
    omega
  have lnn : ((line.take l ++ [(n, c)]).map (·.1)).Nodup := by
    rw [List.map_append, List.nodup_append]
    refine ⟨by rw [List.map_take]; exact (List.take_sublist _ _).nodup ln, by simp, fun a ha b hb e => ?_⟩
    obtain ⟨q, hq, rfl⟩ := List.mem_map.mp ha
    simp at hb
    exact hnot (by rw [← hb, ← e]; exact lm q (List.mem_of_mem_take hq))
  have lmm : ∀ q ∈ line.take l ++ [(n, c)], q.1 ∈ (xs.take (i + 1)).map (·.1) := by
    intro q hq
    rw [en]
    rcases List.mem_append.mp hq with h | h
    · exact List.mem_append_left _ (lm q (List.mem_of_mem_take h))
    · rw [List.mem_singleton] at h
      rw [h]
      exact List.mem_append_right _ (List.mem_singleton.mpr rfl)
  have lkk : ∀ q ∈ line.take l ++ [(n, c)], 0 ≤ q.2 := by
    intro q hq
    rcases List.mem_append.mp hq with h | h
    · exact lk q (List.mem_of_mem_take h)
    · rw [List.mem_singleton] at h
      rw [h]
      exact hc
  have hvx := hv (n, v, l) (List.mem_of_getElem? hx)
  -- the new rows
  have new : ∀ r ∈ (line.take l ++ [(n, c)]).zipIdx.map (fun q => (⟨q.1.1, n, (l : Int) - q.2, q.1.2, v⟩ : Row N)), r.b = n ∧ RowOk ((xs.take (i + 1)).map (·.1)) r := by
    intro r hr
    obtain ⟨q, hq, rfl⟩ := List.mem_map.mp hr
    obtain ⟨j, e2, e3⟩ := mem_zipIdx hq
    have hj : j < l + 1 := by
      have := (List.getElem?_eq_some_iff.mp e3).1
      omega
    have hqm := List.mem_of_getElem? e3
    have hlast : (line.take l ++ [(n, c)])[l]? = some (n, c) := by
      have e5 : (line.take l).length = l := by simp; omega
      rw [List.getElem?_append_right (by omega), e5, Nat.sub_self]
      rfl
    refine ⟨rfl, lmm _ hqm, by rw [en]; simp, ?_, lkk _ hqm, ?_, hvx.1, hvx.2⟩
    · show (0 : Int) ≤ (l : Int) - q.2
      omega
    · show (l : Int) - q.2 = 0 ↔ q.1.1 = n
      constructor
      · intro h
        have : j = l := by omega
        subst this
        rw [hlast] at e3
        rw [← Option.some.inj e3]
      · intro h
        have f1 : ((line.take l ++ [(n, c)]).map (·.1))[j]? = some n := by rw [List.getElem?_map, e3, ← h]; rfl
        have f2 : ((line.take l ++ [(n, c)]).map (·.1))[l]? = some n := by rw [List.getElem?_map, hlast]; rfl
        obtain ⟨g1, g2⟩ := List.getElem?_eq_some_iff.mp f1
        obtain ⟨g3, g4⟩ := List.getElem?_eq_some_iff.mp f2
        have := (List.getElem_inj lnn).mp (g2.trans g4.symm)
        omega
  refine ⟨?_, ?_, lnn, lkk, lmm, ?_, ?_, ⟨?_, ?_⟩, ?_⟩
  · simp only [List.length_set]
    exact k2
  · intro y hy
    rcases List.mem_or_eq_of_mem_set hy with h | h
    · exact k1 y h
    · omega
  · rw [ell]
    omega
  · intro j y hj hy
    have : i = j := by omega
    subst this
    rw [hx] at hy
    rw [← Option.some.inj hy]
    exact ell
  · -- apart
    refine List.pairwise_append.mpr ⟨wf.ap, ?_, fun r hr q hq e => ?_⟩
    · rw [List.pairwise_map]
      have h1 : ((line.take l ++ [(n, c)]).zipIdx.map fun q => q.1.1).Nodup := by
        have : (line.take l ++ [(n, c)]).zipIdx.map (fun q => q.1.1) = ((line.take l ++ [(n, c)]).zipIdx.map Prod.fst).map (·.1) := by rw [List.map_map]; rfl
        rw [this, List.zipIdx_map_fst]
        exact lnn
      rw [List.nodup_iff_pairwise_ne, List.pairwise_map] at h1
      exact h1.imp fun {a b} h e => h e.1
    · have h1 := (wf.row r hr).b
      have h2 := (new q hq).1
      exact hnot (by rw [← h2, ← e.2]; exact h1)
  · intro r hr
    rcases List.mem_append.mp hr with h | h
    · have := wf.row r h
      exact ⟨by rw [en]; exact List.mem_append_left _ this.a, by rw [en]; exact List.mem_append_left _ this.b, this.s0, this.k0, this.eq, this.lo, this.hi⟩
    · exact (new r h).2
  · rw [List.length_append, List.length_map, List.length_zipIdx, ell]
    omega
theorem pstart_inv (xs : List (N × Int × Nat)) : PInv xs 0 pstart := by
  refine ⟨by simp [pstart], fun c hc => ?_, by simp [pstart], fun q hq => by simp [pstart] at hq, fun q hq => by simp [pstart] at hq, by simp [pstart], fun j y h => by omega, ⟨List.Pairwise.nil, fun r hr => by simp [pstart] at hr⟩, by simp [pstart]⟩
  simp only [pstart] at hc
  rw [List.eq_of_mem_replicate hc]
  exact Int.le_refl 0
theorem pfold_inv {xs : List (N × Int × Nat)} (hl : xs.length ≤ 60) (hn : (xs.map (·.1)).Nodup) (hv : ∀ x ∈ xs, -(10 ^ 30) ≤ x.2.1 ∧ x.2.1 ≤ 10 ^ 30) (hlev : levelsOk xs) : ∀ i, i ≤ xs.length → PInv xs i ((xs.take i).foldl pstep pstart)
  | 0, _ => pstart_inv xs
  | i + 1, h => by
    obtain ⟨x, hx⟩ : ∃ x, xs[i]? = some x := ⟨_, List.getElem?_eq_getElem (by omega)⟩
    rw [List.take_add_one, hx, List.foldl_append]
    exact (pstep_inv hl hn hv hlev hx (pfold_inv hl hn hv hlev i (by omega))).2
/-- THE DRAWN ROWS are right by themselves -/
theorem pairs_wf {xs : List (N × Int × Nat)} (hl : xs.length ≤ 60) (hn : (xs.map (·.1)).Nodup) (hv : ∀ x ∈ xs, -(10 ^ 30) ≤ x.2.1 ∧ x.2.1 ≤ 10 ^ 30) (hlev : levelsOk xs) : Wf (xs.map (·.1)) (pairsOf xs) := by
  have := (pfold_inv hl hn hv hlev xs.length (Nat.le_refl _)).wf
  rw [List.take_length] at this
  exact this
theorem pstep_len (st : List (N × Int) × List Int × Rows N) (x : N × Int × Nat) (h : x.2.2 ≤ st.1.length) : (pstep st x).2.2.length = st.2.2.length + (x.2.2 + 1) := by
  unfold pstep
  simp only [List.length_append, List.length_map, List.length_zipIdx, List.length_take, List.length_singleton]
  omega
theorem pairs_len {xs : List (N × Int × Nat)} (hl : xs.length ≤ 7) (hn : (xs.map (·.1)).Nodup) (hv : ∀ x ∈ xs, -(10 ^ 30) ≤ x.2.1 ∧ x.2.1 ≤ 10 ^ 30) (hlev : levelsOk xs) : (pairsOf xs).length ≤ 49 := by
  have key : ∀ i, i ≤ xs.length → (((xs.take i).foldl pstep pstart).2.2).length ≤ 7 * i := by
    intro i
    induction i with
    | zero => intro _; simp [pstart]
    | succ i ih =>
      intro h
      obtain ⟨x, hx⟩ : ∃ x, xs[i]? = some x := ⟨_, List.getElem?_eq_getElem (by omega)⟩
      have I := pfold_inv (by omega : xs.length ≤ 60) hn hv hlev i (by omega)
      obtain ⟨h1, I2⟩ := pstep_inv (by omega : xs.length ≤ 60) hn hv hlev hx I
      have h3 := I.ll
      rw [List.take_add_one, hx, List.foldl_append]
      have h2 := ih (by omega)
      simp only [Option.toList_some, List.foldl_cons, List.foldl_nil]
      have h4 := pstep_len _ x h1
      rw [h4]
      omega
  have := key xs.length (Nat.le_refl _)
  rw [List.take_length] at this
  unfold pairsOf
  omega
/-! ### the forest that a table of rows without fault tells -/
structure ForestOk (pool : List N) (xs : List (N × Int × Nat)) : Prop where
  len : xs.length ≤ pool.length
  nd : (xs.map (·.1)).Nodup
  nm : ∀ x ∈ xs, x.1 ∈ pool
  vl : ∀ x ∈ xs, -(10 ^ 30) ≤ x.2.1 ∧ x.2.1 ≤ 10 ^ 30
  lev : levelsOk xs
theorem forest_ok {pool : List N} {rs : Rows N} (w : Wf pool rs) (G : Good rs) : ForestOk pool (forestOf rs) := by
  have nm : ∀ x ∈ forestOf rs, x.1 ∈ pool ∧ x.1 ∈ rs.map (·.b) := fun x hx => by
    have h1 : x.1 ∈ (forestOf rs).map (·.1) := List.mem_map.mpr ⟨x, hx, rfl⟩
    rw [forest_names] at h1
    have h2 := mem_order.mp h1
    obtain ⟨r, hr, e⟩ := List.mem_map.mp h2
    exact ⟨by rw [← e]; exact (w.row r hr).b, h2⟩
  have nd : ((forestOf rs).map (·.1)).Nodup := by rw [forest_names]; exact order_nodup rs
  refine ⟨?_, nd, fun x hx => (nm x hx).1, fun x hx => ?_, forest_levels G⟩
  · have := nodup_le nd (m := pool) fun y hy => by
      obtain ⟨x, hx, e⟩ := List.mem_map.mp hy
      rw [← e]
      exact (nm x hx).1
    rwa [List.length_map] at this
  · have h1 : x.2.1 = worthOf rs x.1 := by
      unfold forestOf at hx
      obtain ⟨n, _, rfl⟩ := List.mem_map.mp hx
      rfl
    obtain ⟨r, hr, e, _⟩ := worth_in G (nm x hx).2
    rw [h1, e]
    exact ⟨(w.row r hr).lo, (w.row r hr).hi⟩
theorem Good.perm {rs qs : Rows N} (o : Ok qs) (h : due qs = none) (p : qs.Perm rs) (w : Ok rs) : Good rs := by
  have G := Good.of o h
  have m : ∀ r, r ∈ rs ↔ r ∈ qs := fun r => p.mem_iff.symm
  have pe : ∀ n, parent rs n = parent qs n := by
    intro n
    cases e : parent qs n with
    | some x =>
      obtain ⟨r, hr, h1, h2, h3⟩ := (parent_some G).mp e
      have hm : x ∈ ups rs n := mem_ups.mpr ⟨r, (m r).mpr hr, h1, h2, h3⟩
      unfold parent
      cases e2 : ups rs n with
      | nil => rw [e2] at hm; cases hm
      | cons y t =>
        have hy : y ∈ ups rs n := by rw [e2]; exact List.mem_cons_self
        obtain ⟨q, hq, g1, g2, g3⟩ := mem_ups.mp hy
        have := G.l1 q ((m q).mp hq) r hr g3 h3 (g2.trans h2.symm)
        show some y = some x
        rw [← g1, ← h1, this]
    | none =>
      unfold parent
      cases e2 : ups rs n with
      | nil => rfl
      | cons y t =>
        have hy : y ∈ ups rs n := by rw [e2]; exact List.mem_cons_self
        obtain ⟨q, hq, g1, g2, g3⟩ := mem_ups.mp hy
        exact absurd g3 (parent_none e q ((m q).mp hq) g2)
  have js : ∀ p, (jsibs rs p).length = (jsibs qs p).length := by
    intro x
    unfold jsibs
    have e : (fun q : Row N => decide (parent rs q.a = x)) = fun q => decide (parent qs q.a = x) := funext fun q => by rw [pe]
    rw [e]
    exact (((p.filter _).filter _).length_eq).symm
  refine ⟨p.nodup_iff.mp G.nd, fun r hr q hq => G.one r ((m r).mp hr) q ((m q).mp hq), w.s0, w.k0, w.eq, fun r hr => ?_, fun r hr => ?_, fun r hr q hq => G.l1 r ((m r).mp hr) q ((m q).mp hq), fun r hr h1 => ?_, fun r hr q hq h1 h2 => ?_, fun r hr q hq => G.rk r ((m r).mp hr) q ((m q).mp hq), fun r hr q hq => G.vl r ((m r).mp hr) q ((m q).mp hq), fun r hr h0 => ?_, fun r hr q hq h1 h2 h3 h4 => ?_⟩
  · obtain ⟨q, hq, g⟩ := G.sa r ((m r).mp hr)
    exact ⟨q, (m q).mpr hq, g⟩
  · obtain ⟨q, hq, g⟩ := G.sb r ((m r).mp hr)
    exact ⟨q, (m q).mpr hq, g⟩
  · obtain ⟨u, hu, e1, e2, q, hq, g⟩ := G.l2 r ((m r).mp hr) h1
    exact ⟨u, (m u).mpr hu, e1, e2, q, (m q).mpr hq, g⟩
  · obtain ⟨t, ht, g⟩ := G.gap r ((m r).mp hr) q ((m q).mp hq) h1 h2
    exact ⟨t, (m t).mpr ht, g⟩
  · rw [pe, js]
    exact G.or1 r ((m r).mp hr) h0
  · rw [pe, pe] at h3
    exact G.or2 r ((m r).mp hr) q ((m q).mp hq) h1 h2 h3 h4
end
end FR
end

section
set_option Elab.async false
set_option linter.all false
set_option maxRecDepth 100000
set_option maxHeartbeats 4000000
/-! Rules that stand beside the layer: attribute targets, a list or a tuple unpacked or walked, sorted of data. -/
namespace KR
open PySem PySem.Spec PyProof.Rows L2

section
variable {X : Cx} {o e : Expr} {f : Str} {pos : Pos} {ta : TE}
/-- a target o.f -/
def gFld (K : PySem.W.Frag) (ta : TE) (f : Str) : TG := fun v σ H Q => ta σ H fun x H2 => ∃ a C dx fs, x = .ref a ∧ H2 a = some (.ins C dx fs) ∧ Cls K C ∧ NoAttr K C f ∧ fs.length < 1000 ∧ Q σ (upd H2 a (.ins C dx (putF f v fs)))
theorem pg_fld (ha : PE X o ta) : PG X (.Attribute o f pos) (gFld X.K ta f) := by
  refine ⟨fun pins s σ H v u Q I r h => ?_⟩
  rw [assign_Attribute]
  refine wpAny_bind (wpAny_holding (thn (ha.run pins s σ H _ I h) fun ov s1 ⟨x, H2, I2, rx, a, C, dx, fs, ex, ea, c, n, l, q⟩ => ?_))
  subst ex
  obtain rfl : ov = Value.ref a := rx
  refine wpAny_bind (wpAny_standAt (wpAny_bind (wpAny_holding (setattr_ok I2 ea c n l r fun s3 I3 => ?_))))
  exact wpAny_release ⟨σ, _, I3, q⟩

/-- a, b, .. = a list or a tuple of that length -/
def gSeq (K : PySem.W.Frag) (n : Nat) (t : TGs) : TG := fun v σ H Q => ∃ a xs, v = .ref a ∧ (SqL K H a xs ∨ SqT K H a xs) ∧ xs.length = n ∧ t xs σ H Q
theorem pg_seq {es : List Expr} {k : Nat} {t : TGs} {n : Nat} (hc : X.calm = true) (h : PGs X es t)
    (hn : (assignEach es X.env).length = n := by rfl) (hst : (assignEach es X.env).findIdx? (·.1) = none := by rfl) : PG X (.Tuple es k pos) (gSeq X.K n t) := by
  refine ⟨fun pins s σ H v u Q I r hw => ?_⟩
  obtain ⟨a, xs, e1, hq, hl, hw⟩ := hw
  rcases hq with hq | hq
  · exact (pg_unl (pos := pos) (k := k) hc h hn hst).run pins s σ H v u Q I r ⟨a, xs, e1, hq, hl, hw⟩
  · exact (pg_tup (pos := pos) (k := k) hc h hn hst).run pins s σ H v u Q I r ⟨a, xs, e1, hq, hl, hw⟩

/-- a list or a tuple walked -/
def iSeq (K : PySem.W.Frag) (tl : TE) : TI := fun σ H R => tl σ H fun x H1 => ∃ a, x = .ref a ∧ (((∃ xs, SqL K H1 a xs) ∧ R (Itl K a) H1) ∨ ((∃ xs, SqT K H1 a xs) ∧ R (Itt K a) H1))
theorem pi_seq {tg l : Expr} {tl : TE} (hl : PE X l tl) : PI X tg l (iSeq X.K tl) := by
  refine ⟨fun pins s σ H R I h => ?_⟩
  refine thn (hl.run pins s σ H _ I h) fun v s1 ⟨x, H1, I1, r1, a, e, q1⟩ => ?_
  subst e
  rcases q1 with ⟨hq, q⟩ | ⟨hq, q⟩
  · cases r1
    obtain ⟨xs, hq⟩ := hq
    obtain ⟨its, rv, p, hz⟩ := I1.list hq
    refine wpAny_pyIter_list p.isList ?_
    refine ⟨s1.heap.objs.size, [s1.heap.objs.size], _, _, H1, rfl, I1.kept (t' := s1.toks) fun b o e => Heap.get?_push_of_some _ e, turn_list a _, ⟨_, Heap.get?_push_size _ rfl, rfl, rfl⟩, fun b hb => ?_, q⟩
    rw [List.mem_singleton.mp hb]
    exact I1.fpOk (Nat.le_refl _) (I1.hok.fresh (Nat.le_refl _))
  · cases r1
    obtain ⟨xs, hq⟩ := hq
    obtain ⟨its, rv, p, hz⟩ := I1.tuple hq
    refine wpAny_pyIter_tuple (show s1.heap.IsTuple a its.toArray from p) ?_
    refine ⟨s1.heap.objs.size, [s1.heap.objs.size], _, _, H1, rfl, I1.kept (t' := s1.toks) fun b o e => Heap.get?_push_of_some _ e, turn_tuple a _, ⟨_, Heap.get?_push_size _ rfl, rfl, rfl⟩, fun b hb => ?_, q⟩
    rw [List.mem_singleton.mp hb]
    exact I1.fpOk (Nat.le_refl _) (I1.hok.fresh (Nat.le_refl _))
end

/-! ### sorted of data -/
section
variable {X : Cx}
/-- sorted(xs), the items data: bs what they stand for, enc their data -/
def rSortD (K : PySem.W.Frag) : List V → Hp → VK → Prop := fun vs H Q => ∃ (l : Addr) (L : List (V × PyData)), vs = [V.ref l] ∧ SqL K H l (L.map (·.1)) ∧ (∀ q ∈ L, Dp K H q.1 q.2) ∧ PySem.W.AllAlike (L.map (·.2)) ∧ PySem.W.Sortable (L.map (·.2)) ∧ (∀ q ∈ L, q.2.depth ≤ 60) ∧
  ∀ p, H p = none → Q (.ref p) (upd H p (.lst ((L.mergeSort (PySem.W.dataLe false (·.2))).map (·.1))))
theorem each_paired {α β : Type} {R : α → β → Prop} : ∀ {as : List α} {bs : List β}, PySem.W.EachIs R as bs → Paired R as bs
  | _, _, .nil => .nil
  | _, _, .cons h t => .cons h (each_paired t)
theorem vals_each : ∀ {L : List (V × PyData)} {us : List Value}, Vals (L.map (·.1)) us → PySem.W.EachIs (fun u (q : V × PyData) => RelV q.1 u) us L
  | [], [], _ => .nil
  | [], _ :: _, h => by cases h
  | _ :: _, [], h => by cases h
  | q :: L, u :: us, h => by
    cases h with
    | cons h1 h2 => exact .cons h1 (vals_each h2)
theorem each_vals : ∀ {us : List Value} {L : List (V × PyData)}, PySem.W.EachIs (fun u (q : V × PyData) => RelV q.1 u) us L → Vals (L.map (·.1)) us
  | _, _, .nil => .nil
  | _, _, .cons h t => .cons h (each_vals t)
theorem each_imp {α β : Type} {R S : α → β → Prop} : ∀ {as : List α} {bs : List β}, PySem.W.EachIs R as bs → (∀ a b, b ∈ bs → R a b → S a b) → PySem.W.EachIs S as bs
  | _, _, .nil, _ => .nil
  | _, _, .cons h t, f => .cons (f _ _ List.mem_cons_self h) (each_imp t fun a b hb => f a b (List.mem_cons_of_mem _ hb))
theorem cr_sortD (hu : X.A.units + 64 < cLine) : CallR X (.builtin "sorted") (rSortD X.K) := by
  intro pins s σ H vs us Q I r h
  obtain ⟨l, L, rfl, hs, hd, hal, hsk, hdep, q⟩ := h
  obtain ⟨its, rv, hl, hz⟩ := I.list hs
  obtain ⟨u, rfl, ru⟩ := vals1 r
  obtain rfl : u = Value.ref l := ru
  have e0 := vals_each rv
  have er : PySem.W.EachIs (fun v (b : V × PyData) => ∃ as, Reads s.heap v b.2 as) its L := each_imp e0 fun v b hb rb => Dp.reads I b.2 b.1 v (hd b hb) rb
  have hLz : L.length ≤ sizeLine := by rw [List.length_map] at hz; exact hz
  refine PySem.W.sorted_data (enc := (·.2)) (bs := L) hl.isList e0 er hal hsk hLz (fun b hb => ?_) fun out hlen ho => ?_
  · have := hdep b hb
    omega
  · obtain ⟨ep, he'⟩ := PyProof.Rows.sortedAll_at s.heap its out.toArray
    have hv := each_vals ho
    have hlen2 : ((L.mergeSort (PySem.W.dataLe false (·.2))).map (·.1)).length ≤ sizeLine := by
      rw [List.length_map, List.length_mergeSort]
      exact hLz
    exact ⟨.ref _, upd H (s.heap.objs.size + 1) (.lst ((L.mergeSort (PySem.W.dataLe false (·.2))).map (·.1))), I.laid (t' := s.toks) (fun _ _ => PyProof.Rows.sortedAll_old) (Nat.le_succ _) ⟨hlen2, out, ep, hv, he'⟩, rfl, q _ (I.hok.fresh (Nat.le_succ _))⟩
end
end KR
end

section
set_option Elab.async false
set_option linter.all false
set_option maxRecDepth 100000
set_option maxHeartbeats 4000000
/-! Dict comprehensions whose keys are numbers, texts or tuples of them (what is put is told by DPut); as a value, and given to a local name. -/
namespace KR
open PySem PySem.Spec PyProof.Rows L2

/-- what is put by a comprehension -/
theorem put_ok {X : Cx} {pins : List (Addr × Obj)} {σ : L2.St} {H H' : Hp} {s : Shared} {E : Value → Shared → Prop} {D : Addr} {y z : V} {u r : Value} {Q : Unit → Shared → Prop} (hu : X.A.units + 1 < cLine) (I : Inv X pins σ H s)
    (g : DPut H D y z H') (ry : RelV y u) (rz : RelV z r) (h : ∀ s', Inv X pins σ H' s' → Q () s') : wpAny (model X.prog X.w) X.A (dictSet D u r) Q E s := by
  rcases g with ⟨kvs, k, e, ey, l, eH⟩ | ⟨kvs, k, b, e, ey, eb, l, eH⟩
  · subst ey eH
    exact d_dictSet I e l ry rz h
  · subst ey eH
    obtain rfl : u = Value.ref b := ry
    obtain ⟨_, hd, xs, rel, dd⟩ := dt_of I.hok e
    have lx : xs.length ≤ sizeLine := by
      rw [← Paired.length rel]
      omega
    have ly : (putK kvs k z).length ≤ sizeLine := Nat.le_trans (length_putK kvs k z) (by omega)
    refine wpAny_dictSet_heap (hsz := lx) (show X.A.units < cLine by omega) (key_of I.hok eb) dd fun h' dd' hs => h _ ?_
    obtain ⟨q, es, ep, hq, h2, h3, h4, _, h5⟩ := dd'
    refine d_write I (by rw [e]; exact True.intro) hs ⟨q, hq⟩ ⟨ly, hd, _, (rel.put k eb rz).keeps fun c ys ec => ?_, q, es, ep, hq, h2, h3, h4, h5⟩
    rw [upd_ne (ne_of ec e fun w => nomatch w)]
    exact ec

section
variable {X : Cx}
/-- one turn of the block: the target, the tests, the key, the value, what is put -/
def dTurn (g : TG) (tt : TT) (tk tv : TE) (vs : List Nat) (D : Addr) (σ : L2.St) (Nx : Hp → Prop) (x : V) (H' : Hp) : Prop :=
  g x (wipe σ vs) H' fun σ2 H2 => wipe σ2 vs = wipe σ vs ∧ tt σ2 H2 fun b H3 =>
    if b = true then tk σ2 H3 fun y H4 => tv σ2 H4 fun z H5 => ∃ H6, DPut H5 D y z H6 ∧ Nx H6 else Nx H3
/-- {k: v for ..}: O the empty dict -/
def tDp (O : HO) (wi : TI) (g : TG) (tt : TT) (tk tv : TE) (vs : List Nat) : TE := fun σ H Q => wi σ H fun J H1 => ∀ D, H1 D = none →
  ∃ W : Nat → Nat → Hp → Prop, (∃ m, W 0 m (upd H1 D O)) ∧ ∀ i m H, W i m H → (J.stop i H ∧ Q (.ref D) H) ∨
    (J.go i H ∧ ∃ Nx : Hp → Prop, (∀ H', Nx H' → ∃ m', m' < m ∧ W (i + 1) m' H') ∧ ∀ x H', J.yld i H x H' → dTurn g tt tk tv vs D σ Nx x H')
def EmptyD (O : HO) : Prop := O = .dK [] ∨ O = .dT []
theorem EmptyD.ok {O : HO} (h : EmptyD O) {P : Program} {w : World} {H : Hp} (g : Heap) (hb : sysModules < g.objs.size) : ObjOk P w H (g.push { cls := .type "dict", data := .dict #[] }) g.objs.size O := by
  rcases h with rfl | rfl
  · exact dk_empty g hb
  · exact dt_empty g hb
section
variable {kx vx tg iter : Expr} {ifs : List Expr} {scope : Scope} {own : List (Str × Nat)} {pos pos' : Pos} {wi : TI} {g : TG} {tt : TT} {tk tv : TE} {O : HO}
/-- the parts of the block are rules in any block of this scope -/
structure DBlk (X : Cx) (scope : Scope) (tg : Expr) (ifs : List Expr) (kx vx : Expr) (g : TG) (tt : TT) (tk tv : TE) : Prop where
  g : ∀ (s : Shared) (H : Hp) (C : Addr) (cl : List (Str × Addr)) (fp : List Addr), PG (X.blk s H scope (compEnvC scope cl C X.env) fp) tg g
  t : ∀ (s : Shared) (H : Hp) (C : Addr) (cl : List (Str × Addr)) (fp : List Addr), PTs (X.blk s H scope (compEnvC scope cl C X.env) fp) ifs tt
  k : ∀ (s : Shared) (H : Hp) (C : Addr) (cl : List (Str × Addr)) (fp : List Addr), PE (X.blk s H scope (compEnvC scope cl C X.env) fp) kx tk
  v : ∀ (s : Shared) (H : Hp) (C : Addr) (cl : List (Str × Addr)) (fp : List Addr), PE (X.blk s H scope (compEnvC scope cl C X.env) fp) vx tv
theorem dp_core {pins : List (Addr × Obj)} {s : Shared} {σ : L2.St} {H : Hp} {Q : VK} {use : Option (Value → Sem Unit)} {Qf : Value → Shared → Prop} (hO : EmptyD O) (hu : X.A.units + 1 < cLine)
    (hc : X.calm = true) (hN : X.N.Nodup) (I : Inv X pins σ H s) (hi : PI X tg iter wi) (ok : BlkOk X.N X.env.scope scope own) (B : DBlk X scope tg ifs kx vx g tt tk tv) (hs : ∀ x, foldedSetIterable iter X.env x = pure x)
    (h : tDp O wi g tt tk tv (own.map (·.2)) σ H Q)
    (hRR : ∀ D C s' m H', Inv X pins σ H' s' → Q (.ref D) H' → s'.heap.Ns C m → FpOk X pins H' C → compPost (model X.prog X.w) X.A X.xe use Qf (.ref D) C (.ok .next) s') :
    wpAny (model X.prog X.w) X.A (comprehension (.DictComp kx vx [⟨tg, iter, ifs, 0⟩] scope pos) scope X.env pos' newDict false (eval iter X.env) use) Qf X.xe s := by
  have caught : ∀ y ∈ scope.names, y.2 = .free → ∃ c, X.env.cells.lookup y.1 = some c := fun y hy e =>
    (ok.free y hy e).elim (fun k => I.ok.has _ (.inl k)) fun k => I.ok.has _ (.inr k)
  refine wpAny_comprehension_free (use := use) rfl hs (closure_ok caught) ok.kind (fun y hy e => by rw [ok.uniq y hy, e]) ?_
  refine thn (hi.run pins s σ H _ I h) fun xv s1 hx => thn hx fun itv s2 ⟨it, fp, tn, J, H2, e, I2, T, st2, f2, q⟩ => ?_
  subst e
  refine wpAny_newObj_type (newEnv_comp ?_)
  generalize eD : s2.heap.objs.size = D
  have leD : s2.heap.objs.size ≤ D := Nat.le_of_eq eD
  obtain ⟨W, ⟨m0, w0⟩, turn⟩ := q D (I2.hok.fresh leD)
  generalize es3 : ({ s2 with heap := s2.heap.push { cls := .type "dict", data := .dict #[] } } : Shared) = s3
  have h3 : s3.heap = s2.heap.push { cls := .type "dict", data := .dict #[] } := by rw [← es3]
  have k3 : ∀ b o, s2.heap.get? b = some o → s3.heap.get? b = some o := fun b o z => by
    rw [h3]
    exact Heap.get?_push_of_some _ z
  generalize eH3 : upd H2 D O = H3 at w0
  have I3 : Inv X pins σ H3 s3 := by
    rw [← es3, ← eH3]
    refine I2.laid (t' := s2.toks) (fun b o z => Heap.get?_push_of_some _ z) leD ?_
    rw [← eD]
    exact hO.ok s2.heap I2.big
  have f3 : ∀ b ∈ fp, FpOk X pins H3 b ∧ b < s3.heap.objs.size := fun b hb => by
    obtain ⟨o, z, _⟩ := T.obj _ _ st2 b hb
    have lt := Heap.lt_size z
    refine ⟨⟨?_, (f2 b hb).2⟩, ?_⟩
    · rw [← eH3, upd_ne (by rw [← eD]; exact Nat.ne_of_lt lt)]
      exact (f2 b hb).1
    · rw [h3, Heap.size_push]
      exact Nat.lt_succ_of_lt lt
  have I4 := block_start I3 ok hN f3
  generalize ece : compEnvC scope (cellsFrom (s3.heap.objs.size + 1) scope.names (cloFrom X.env.cells scope.names [])) s3.heap.objs.size X.env = ce at I4
  have cL : ce.locals = s3.heap.objs.size := by rw [← ece]; rfl
  have pg : PG (X.blk s3 H3 scope ce fp) tg g := by rw [← ece]; exact B.g s3 H3 _ _ fp
  have pt : PTs (X.blk s3 H3 scope ce fp) ifs tt := by rw [← ece]; exact B.t s3 H3 _ _ fp
  have pk : PE (X.blk s3 H3 scope ce fp) kx tk := by rw [← ece]; exact B.k s3 H3 _ _ fp
  have pe : PE (X.blk s3 H3 scope ce fp) vx tv := by rw [← ece]; exact B.v s3 H3 _ _ fp
  show codeAny _ _ (.compStart (.DictComp kx vx [⟨tg, iter, ifs, 0⟩] scope pos) 0 (.ref it) (.ref D) (compEnvC scope (cellsFrom (s3.heap.objs.size + 1) scope.names (cloFrom X.env.cells scope.names [])) s3.heap.objs.size X.env)) (compPost (model X.prog X.w) X.A X.xe use Qf (.ref D) s3.heap.objs.size) { s3 with heap := pushCells (s3.heap.push { cls := .type "dict", data := .dict #[] }) scope.names }
  rw [ece]
  generalize es4 : ({ s3 with heap := pushCells (s3.heap.push { cls := .type "dict", data := .dict #[] }) scope.names } : Shared) = s4 at I4 ⊢
  have st4 : tn 0 s4.heap := T.keep _ _ _ st2 fun b _ o z => by
    rw [← es4]
    exact pushCells_keeps _ _ _ _ (Heap.get?_push_of_some _ (k3 b o z))
  have within : ∀ {σ' : L2.St} {H' : Hp} {s' : Shared}, Inv (X.blk s3 H3 scope ce fp) [] σ' H' s' → (∀ b ∈ fp, H' b = none) → ∀ b ∈ fp, FpOk (X.blk s3 H3 scope ce fp) [] H' b := fun {σ' H' s'} I' hn b hb =>
    ⟨hn b hb, (I'.ok.exf b hb).1, I'.ok.exfs b hb, .inl hb, fun x c z => (I'.ok.exf b hb).2 x c z, fun p hp => absurd (show p ∈ ([] : List (Addr × Obj)) ++ [] from hp) (by simp)⟩
  have all : codeAny (model X.prog X.w) X.A (.compLoop (.DictComp kx vx [⟨tg, iter, ifs, 0⟩] scope pos) 0 (.ref it) (.ref D) ce) (compPost (model X.prog X.w) X.A X.xe use Qf (.ref D) s3.heap.objs.size) s4 := by
    refine compLoop_anyD (fun n s' => ∃ i H', Inv (X.blk s3 H3 scope ce fp) [] (wipe σ (own.map (·.2))) H' s' ∧ tn i s'.heap ∧ (∀ b ∈ fp, H' b = none) ∧ W i n H') ?_ m0 ⟨0, H3, I4, st4, fun b hb => (f3 b hb).1.1, w0⟩
    rintro n s5 ⟨i, H5, I5, st5, n5, w5⟩
    rcases turn i n H5 w5 with ⟨stop, fin⟩ | ⟨go, Nx, hNx, step⟩
    · -- the last turn: back in the def's own context
      refine thnF (T.done (X.blk s3 H3 scope ce fp) rfl rfl rfl hc i [] s5 _ H5 (fun _ _ => False) I5 (within I5 n5) st5 stop) fun r s6 ⟨hr, I6⟩ => ?_
      subst hr
      obtain ⟨m, hn, _⟩ := I6.loc
      have hn : s6.heap.Ns ce.locals m := hn
      have nC : H5 ce.locals = none := I6.free
      rw [cL] at hn nC
      refine hRR D s3.heap.objs.size s6 m H5 ?_ fin hn (I3.fpOk (Nat.le_refl _) nC)
      exact I3.call' (ch := fp) I6.os I6.base I6.hok I6.bare fun b hb => let z := (f3 b hb).1; ⟨z.2.2.2.1, z.2.1, z.2.2.2.2.1, z.2.2.2.2.2⟩
    · refine thnF (T.item (X.blk s3 H3 scope ce fp) rfl rfl rfl hc i [] s5 _ H5 (fun _ _ => False) I5 (within I5 n5) st5 go) fun r s6 ⟨u, hr, h6⟩ => ?_
      subst hr
      refine thnF h6 fun _ s7 ⟨x, H7, I7, r7, y7, st7, n7⟩ => ?_
      refine thnF (pg.run _ s7 _ H7 x u _ (I7.pinned (within I7 n7) (T.obj _ _ st7)) r7 (step x H7 y7)) fun _ s8 ⟨σ8, H8, I8, hw8, q8⟩ => ?_
      refine thnF (pt.run _ s8 σ8 H8 _ I8 q8) fun b s9 ⟨H9, I9, q9⟩ => ?_
      have next : ∀ {s' : Shared} {H' : Hp}, Inv (X.blk s3 H3 scope ce fp) ([] ++ pinsAt fp s7.heap) σ8 H' s' → Nx H' →
          ∃ m, m < n ∧ ∃ i H', Inv (X.blk s3 H3 scope ce fp) [] (wipe σ (own.map (·.2))) H' s' ∧ tn i s'.heap ∧ (∀ b ∈ fp, H' b = none) ∧ W i m H' := fun {s' H'} I' nx => by
        obtain ⟨m', hm, w'⟩ := hNx H' nx
        have held : ∀ b ∈ fp, ∀ o, s7.heap.get? b = some o → s'.heap.get? b = some o ∧ H' b = none := fun b hb o z =>
          let p := I'.pin (b, o) (List.mem_append_right _ (List.mem_append_right _ (mem_pinsAt hb z)))
          ⟨p.1, p.2.1⟩
        refine ⟨m', hm, i + 1, H', (I'.unpinned (pins := [])).weak (by rw [← hw8, wipe_length]) (fun j v z => ?_), T.keep _ _ _ st7 fun b hb o z => (held b hb o z).1, fun b hb => ?_, w'⟩
        · rw [← hw8] at z
          exact (wipe_some z).1
        · obtain ⟨o, z, _⟩ := T.obj _ _ st7 b hb
          exact (held b hb o z).2
      cases b with
      | false =>
        simp only [Bool.false_eq_true, if_false] at q9 ⊢
        exact next I9 q9
      | true =>
        simp only [if_true] at q9 ⊢
        refine thnF (pk.run _ s9 σ8 H9 _ I9 q9) fun z s10 ⟨yk, H10, I10, r10, q10⟩ => ?_
        refine thnF (pe.run _ s10 σ8 H10 _ I10 q10) fun z2 s11 ⟨yv, H11, I11, r11, H12, put, nx⟩ => ?_
        exact put_ok (X := X.blk s3 H3 scope ce fp) hu I11 put r10 r11 fun s12 I12 => next I12 nx
  exact codeAny_compStart_dict all (T.self X.A 0 _ _ _ st4 all)
theorem pe_dp (hO : EmptyD O) (hu : X.A.units + 1 < cLine) (hc : X.calm = true) (hN : X.N.Nodup) (hi : PI X tg iter wi) (ok : BlkOk X.N X.env.scope scope own) (B : DBlk X scope tg ifs kx vx g tt tk tv) (hs : ∀ x, foldedSetIterable iter X.env x = pure x := by intro _; rfl) :
    PE X (.DictComp kx vx [⟨tg, iter, ifs, 0⟩] scope pos) (tDp O wi g tt tk tv (own.map (·.2))) := by
  refine ⟨fun pins s σ H Q I h => ?_⟩
  rw [arm_eval_DictComp]
  refine dp_core hO hu hc hN I hi ok B hs h fun D C s' m H' I' q hn f => ⟨m, hn, fun h'' sb => ?_⟩
  exact ⟨.ref D, H', I'.turned (t' := s'.toks) (fun b o hb z => (sb.2 b hb).trans z) f.1 f.2.1 f.2.2.2.1 f.2.2.2.2.1 f.2.2.2.2.2, rfl, q⟩
/-- name = {..} on one line, the name a local -/
theorem ps_setDp {i : Nat} {y : Str} {py spos : Pos} (hO : EmptyD O) (hu : X.A.units + 1 < cLine) (hc : X.calm = true) (hN : X.N.Nodup) (hy : X.N[i]? = some y) (hyl : X.env.scope.names.lookup y = some .local)
    (hsw : swapsWith (.DictComp kx vx [⟨tg, iter, ifs, 0⟩] scope pos) (some (.Name y py)) spos.line X.env = pure true) (hi : PI X tg iter wi) (ok : BlkOk X.N X.env.scope scope own) (B : DBlk X scope tg ifs kx vx g tt tk tv)
    (hs : ∀ x, foldedSetIterable iter X.env x = pure x := by intro _; rfl) :
    PS X (.Assign [.Name y py] (.DictComp kx vx [⟨tg, iter, ifs, 0⟩] scope pos) spos) (tAsg (tDp O wi g tt tk tv (own.map (·.2))) (gName i)) := by
  refine ⟨fun pins s σ H D I h => ?_⟩
  rw [exec_Assign_arm]
  refine wpAny_bind (wpAny_standAt ?_)
  rw [show swapsWithSole [.Name y py] (.DictComp kx vx [⟨tg, iter, ifs, 0⟩] scope pos) spos.line X.env = pure true from hsw]
  refine wpAny_bind (wpAny_pure ?_)
  rw [if_pos rfl]
  refine wpAny_bind ?_
  show wpAny _ X.A (do let _ ← comprehension (.DictComp kx vx [⟨tg, iter, ifs, 0⟩] scope pos) scope X.env (firstIterPos [⟨tg, iter, ifs, 0⟩] pos) newDict false (eval iter X.env) (some (assign (.Name y py) X.env))) _ _ s
  have h : tDp O wi g tt tk tv (own.map (·.2)) σ H (fun x H1 => gName i x σ H1 D.nx) := h
  refine wpAny_bind (thn (dp_core (Qf := fun _ s' => SP X pins D .next s') hO hu hc hN I hi ok B hs h fun L C s' m H' I' q hn f => ?_) fun _ s' hq => wpAny_pure (wpAny_pure hq))
  show wpAny _ _ (assign (.Name y py) X.env (.ref L)) _ _ _
  refine wpAny_assign_Name (store_ok2 (v := V.ref L) I' hN hy (.inl hyl) rfl (fun s2 I2 ⟨a, sb, ha⟩ => ?_) (.inr hyl))
  have haC : C ≠ a := ha.elim (fun z => by rw [z]; exact f.2.1) fun z w => f.2.2.2.2.1 y a z w.symm
  refine ⟨m, hn.sameBut sb haC, fun h3 sb3 => ?_⟩
  exact ⟨_, H', I2.turned (t' := s2.toks) (fun b o hb z => (sb3.2 b hb).trans z) f.1 f.2.1 f.2.2.2.1 f.2.2.2.2.1 f.2.2.2.2.2, q⟩
end
/-- the model's other statement, for a dict comprehension -/
theorem swd_true {kx vx : Expr} {gs : List Comprehension} {scope : Scope} {pos py : Pos} {y : Str} {l : Nat} {env : Env} (hk : env.scope.kind = .function) (hy : env.scope.names.lookup y = some .local) (hl : (py.line == pos.line) = true)
    (ha : (scope.names.any fun (n, k) => n == y && (k == .local || k == .cell)) = false) : swapsWith (.DictComp kx vx gs scope pos) (some (.Name y py)) l env = pure true := by
  have hb : env.blockKind = .function := by
    unfold Env.blockKind
    rw [hk]
    rfl
  have ky : env.kindOf y = some .local := hy
  unfold swapsWith
  simp only [ky, hb, ha, hl, Expr.pos]
  rfl
/-- over any walk -/
theorem dp_it {J : It} {n : Nat} {G : Hp → Prop} {Y : Nat → Hp → V → Hp → Prop} (w : Walk J n G Y) {O : HO} {g : TG} {tt : TT} {tk tv : TE} {vs : List Nat} {σ : L2.St} {H1 : Hp} {D : Addr} {Qd : Hp → Prop} (Pv : Nat → Hp → Prop) (h0 : Pv 0 (upd H1 D O))
    (hG : ∀ i H, i ≤ n → Pv i H → G H) (hs : ∀ i x H H', i < n → Pv i H → Y i H x H' → dTurn g tt tk tv vs D σ (Pv (i + 1)) x H') (hd : ∀ H, Pv n H → Qd H) :
    ∃ W : Nat → Nat → Hp → Prop, (∃ m, W 0 m (upd H1 D O)) ∧ ∀ i m H, W i m H → (J.stop i H ∧ Qd H) ∨
      (J.go i H ∧ ∃ Nx : Hp → Prop, (∀ H', Nx H' → ∃ m', m' < m ∧ W (i + 1) m' H') ∧ ∀ x H', J.yld i H x H' → dTurn g tt tk tv vs D σ Nx x H') := by
  refine ⟨fun i m H => m = n - i ∧ i ≤ n ∧ Pv i H, ⟨n, by simp, Nat.zero_le _, h0⟩, ?_⟩
  rintro i m H ⟨rfl, hi, p⟩
  by_cases hlt : i < n
  · exact .inr ⟨w.goes i H hlt (hG i H hi p), Pv (i + 1), fun H' p' => ⟨n - (i + 1), by omega, rfl, hlt, p'⟩, fun x H' y => hs i x H H' hlt p (w.yields i H x H' hlt (hG i H hi p) y)⟩
  · have e : i = n := by omega
    subst e
    exact .inl ⟨w.stops H (hG i H hi p), hd H p⟩
end
end KR
end

section
set_option Elab.async false
set_option linter.all false
set_option maxRecDepth 100000
set_option maxHeartbeats 4000000
/-! enumerate(v), v a list or a tuple. -/
namespace KR
open PySem PySem.Spec PyProof.Rows L2

theorem enum_new1 {v : Value} {o : Obj} {H : Heap → Prop} (B : Begins v o H) :
    Meets (Builtin.«enumerate.__new__» ⟨[.type "enumerate", v], []⟩) (fun _ R s => H s.heap ∧
      R (.ok (.ret (.ref (s.heap.push o).objs.size))) { s with heap := (s.heap.push o).push { cls := .type "enumerate", data := .fields #[.none, .bool false, .ref s.heap.objs.size, rawInt 0, .none, .none] } }) :=
  .of_wp fun prog w A R s h => by
    obtain ⟨hp, g, d, tk, os⟩ := s
    obtain ⟨h1, h⟩ := h
    have hsub := sub_enumerate
    have begun : ∀ {A' : Around} {E : Value → Shared → Prop} {Q : Value → Shared → Prop}, Q (.ref hp.objs.size) ⟨hp.push o, g, d, tk, os⟩ → wpAny (model prog w) A' (pyIter v) Q E ⟨hp, g, d, tk, os⟩ :=
      fun q => B.iter prog w _ _ ⟨hp, g, d, tk, os⟩ _ h1 q
    wp_walk using begun
    refine wpAny_stack_any fun st => wpAny_pure ?_
    split
    · rename_i c _ _ _ _ _
      cases (c == Value.type "enumerate") <;> (wp_walk using begun; exact ⟨_, rfl, h⟩)
    · wp_walk using begun
      exact ⟨_, rfl, h⟩
theorem call_enum1 {prog : Program} {w : World} {A : Around} {E : Value → Shared → Prop} {s : Shared} {v : Value} {o : Obj} {H : Heap → Prop} {Q : Value → Shared → Prop} (B : Begins v o H) (h1 : H s.heap)
    (h : ∀ h', IsEnum h' (s.heap.objs.size + 1) s.heap.objs.size 0 .none → h'.get? s.heap.objs.size = some o → h'.objs.size = s.heap.objs.size + 2 →
      (∀ b o, s.heap.get? b = some o → h'.get? b = some o) → Q (.ref (s.heap.objs.size + 1)) { s with heap := h' }) :
    wpAny (model prog w) A (call (.type "enumerate") [v]) Q E s := by
  refine callType_new F.called_enumerate (by decide) (F.typeCall_enumerate_1 _) (F.newCall_enumerate_1 _) (fun obj => F.args_object_init_2 obj _) F.entry_enumerate_new (enum_new1 B) ⟨h1, ?_⟩
  have z : (s.heap.push o).objs.size = s.heap.objs.size + 1 := Heap.size_push ..
  show _ ∧ _
  rw [z]
  have he : IsEnum ((s.heap.push o).push { cls := .type "enumerate", data := .fields #[.none, .bool false, .ref s.heap.objs.size, rawInt 0, .none, .none] }) (s.heap.objs.size + 1) s.heap.objs.size 0 .none := by
    have q := Heap.get?_push_size (s.heap.push o) (o := { cls := .type "enumerate", data := .fields #[.none, .bool false, .ref s.heap.objs.size, rawInt 0, .none, .none] }) rfl
    rw [z] at q
    exact q
  exact ⟨⟨_, he, rfl⟩, h _ he (Heap.get?_push_of_some _ (Heap.get?_push_size _ B.free)) (by rw [Heap.size_push, z]) fun b o x => Heap.get?_push_of_some _ (Heap.get?_push_of_some _ x)⟩

/-- the tuple at a, each item in a new pair -/
def Itet (K : PySem.W.Frag) (a : Addr) : It :=
  ⟨fun i H => ∃ (xs : List V) (x : V), SqT K H a xs ∧ xs[i]? = some x, fun i H v H' => ∃ T x, v = .ref T ∧ H T = none ∧ H' = upd H T (.tup [.int (i : Nat), x]) ∧ ∀ xs, SqT K H a xs → xs[i]? = some x, fun i H => ∃ xs : List V, SqT K H a xs ∧ xs.length ≤ i⟩
theorem walk_enumT {K : PySem.W.Frag} {a : Addr} {xs : List V} : Walk (Itet K a) xs.length (fun H => SqT K H a xs) (YPair (fun i => some (.int (i : Nat))) (fun i => xs[i]?)) := by
  refine ⟨fun i _ hi q => ⟨xs, xs[i], q, by simp [hi]⟩, fun _ q => ⟨xs, q, Nat.le_refl _⟩, fun i H v H' _ q ⟨T, x, h1, h2, h3, h4⟩ => ?_⟩
  exact ⟨T, .int (i : Nat), x, h1, h2, h3, rfl, h4 xs q⟩
theorem turn_enumT {P : Program} {w : World} {K : PySem.W.Frag} {elts : List Expr} {kk : Nat} {tpos : Pos} (a e it : Addr) :
    Turn P w K (.Tuple elts kk tpos) (Itet K a) [e, it] e (fun i h => (∃ old, IsEnum h e it ((i : Nat) : Int) old) ∧ h.IsTupleIter it a i ∧ e ≠ it) where
  mem := by simp
  obj := fun i h st b hb => by
    obtain ⟨⟨old, he⟩, ⟨o, ho, hc, hd⟩, _⟩ := st
    rcases (show b = e ∨ b = it by simpa using hb) with z | z
    · rw [z]
      exact ⟨_, he, fun v q => nomatch q⟩
    · rw [z]
      exact ⟨o, ho, fun v q => by rw [hd] at q; cases q⟩
  keep := fun i h h' ⟨⟨old, he⟩, hi, hne⟩ k => ⟨⟨old, k e (by simp) _ he⟩, hi.at fun o q => k it (by simp) o q, hne⟩
  item := by
    intro X hP hw hK hc i pins s σ H E I hf st hg
    subst hP hw hK
    obtain ⟨⟨old, he⟩, hit, hne⟩ := st
    obtain ⟨xs, x, hq, hx⟩ := hg
    obtain ⟨its, rv, p, hz⟩ := I.tuple hq
    obtain ⟨u, hu, ru⟩ := rv.get hx
    have le : e < s.heap.objs.size := Heap.lt_size he
    have li : it < s.heap.objs.size := let ⟨_, q, _⟩ := hit; Heap.lt_size q
    have hat : a ≠ it := fun z => by
      obtain ⟨o1, e1, c1, d1⟩ := hit
      obtain ⟨o2, e2, c2, _⟩ := p
      rw [z, e1] at e2
      cases e2
      rw [c1] at c2
      injection c2 with c3
      exact absurd c3 (by decide)
    have hea : e ∉ [it, a] := fun z => by
      rcases (show e = it ∨ e = a by simpa using z) with y | y
      · exact hne y
      · obtain ⟨o2, e2, c2, _⟩ := p
        rw [← y, he] at e2
        cases e2
        injection c2 with c3
        exact absurd c3 (by decide)
    have hiu : i < its.toArray.size := by
      have := (List.getElem?_eq_some_iff.mp hu).1
      simpa using this
    refine wpAny_pyNext_enum_itemC (Draws.tuple (A := X.A.in1) (I.ok.hd hc) it a hat its.toArray) he ⟨hit, show s.heap.IsTuple a its.toArray from p⟩ hiu hne hea fun y h' tk hP ho hst' hT hsz hk => ?_
    have hy : y = u := by
      have h2 : its.toArray[i]? = some u := by simpa using hu
      rw [hP] at h2
      exact Option.some.inj h2
    subst hy
    refine ⟨_, rfl, wpAny_letOwnedTupleGo_enum (s := { s with heap := h', toks := tk + 1 }) ho fun h'' he' sb => ?_⟩
    have hT2 : h''.get? s.heap.objs.size = some { cls := .type "tuple", data := .seq #[.int i tk, y] } := (sb.2 _ (Nat.ne_of_gt le)).trans hT
    have new : ObjOk X.prog X.w (upd H s.heap.objs.size (.tup [.int (i : Nat), x])) h'' s.heap.objs.size (.tup [.int (i : Nat), x]) :=
      ⟨by show 2 ≤ sizeLine; decide, [.int i tk, y], .cons ⟨_, rfl⟩ (.cons ru .nil), ⟨_, hT2, rfl, _, rfl⟩⟩
    have I1 : Inv X pins σ (upd H s.heap.objs.size (.tup [.int (i : Nat), x])) { s with heap := h'', toks := tk + 1 } :=
      I.turnedNew (ch := [e, it]) (fun b ob hb q => (sb.2 b (fun z => hb (by simp [z]))).trans (hk b ob (fun z => hb (by simp [z])) (fun z => hb (by simp [z])) q)) hf (Nat.le_refl _) new
    refine ⟨.ref s.heap.objs.size, _, I1, rfl, ⟨_, x, rfl, I.hok.fresh (Nat.le_refl _), rfl, fun ys hy => by rw [I.tuple_inj hy hq]; exact hx⟩, ⟨⟨y, ?_⟩, hst'.1.at fun o q => (sb.2 it (Ne.symm hne)).trans q, hne⟩, fun b hb => ?_⟩
    · rw [show ((i + 1 : Nat) : Int) = (i : Int) + 1 by omega]
      exact he'
    · have lb : b < s.heap.objs.size := by
        rcases (show b = e ∨ b = it by simpa using hb) with z | z
        · rw [z]; exact le
        · rw [z]; exact li
      rw [upd_ne (Nat.ne_of_lt lb)]
      exact (hf b hb).1
  done := by
    intro X hP hw hK hc i pins s σ H E I hf st hg
    subst hP hw hK
    obtain ⟨⟨old, he⟩, hit, hne⟩ := st
    obtain ⟨xs, hq, hx⟩ := hg
    obtain ⟨its, rv, p, hz⟩ := I.tuple hq
    obtain ⟨f0, f1, f2, f3, f4, f5⟩ := hf it (by simp)
    have hl := rv.length
    -- a place at the end or beyond: the iterator has none
    by_cases hi : i = its.toArray.size
    · subst hi
      have hat : a ≠ it := fun z => by
        obtain ⟨o1, e1, c1, d1⟩ := hit
        obtain ⟨o2, e2, c2, _⟩ := p
        rw [z, e1] at e2
        cases e2
        rw [c1] at c2
        injection c2 with c3
        exact absurd c3 (by decide)
      exact wpAny_pyNext_enum_endD (Draws.tuple (A := X.A.in1) (I.ok.hd hc) it a hat its.toArray) he ⟨hit, show s.heap.IsTuple a its.toArray from p⟩ fun h' eb => ⟨rfl, I.turned (t' := s.toks) (fun b o hb q => eb b o hb q) f0 f1 f3 f4 f5⟩
    · have D : Draws X.prog X.w X.A.in1 it [it, a] 0 (fun _ _ => False) (fun j h => h.IsTupleIter it a (i + j) ∧ h.IsTuple a its.toArray) :=
        ⟨fun _ _ st => let ⟨o, ho, _⟩ := st.1; ⟨o, ho⟩, fun _ _ _ st hk => ⟨st.1.at fun o e => hk it (by simp) o e, st.2.at fun o e => hk a (by simp) o e⟩,
          fun j s Q E hj => absurd hj (Nat.not_lt_zero _), fun s Q E st hE => wpAny_nextOf_tuple_end (A := X.A.in1) (I.ok.hd hc) st.1 st.2 (by
            have hx' : its.toArray.size ≤ i := by simp; omega
            simp only [Nat.add_zero]
            exact Array.getElem?_eq_none_iff.mpr hx') hE⟩
      exact wpAny_pyNext_enum_endD D he ⟨hit, show s.heap.IsTuple a its.toArray from p⟩ fun h' eb => ⟨rfl, I.turned (t' := s.toks) (fun b o hb q => eb b o hb q) f0 f1 f3 f4 f5⟩
  self := fun A i s Q E ⟨⟨_, he⟩, _⟩ h => wpAny_pyIter_enum he h
/-- enumerate(v): a list or a tuple -/
def iEnumQ (K : PySem.W.Frag) (ta : TA) : TI := fun σ H R => ta σ H fun vs H1 => ∃ a xs, vs = [.ref a] ∧ ((SqL K H1 a xs ∧ R (Ite K a) H1) ∨ (SqT K H1 a xs ∧ R (Itet K a) H1))
theorem pi_enumQ {X : Cx} {e : Expr} {ta : TA} {p pos tpos : Pos} {elts : List Expr} {kk : Nat} (hg : Gl X "enumerate") (hm : X.mg "enumerate" = none) (ha : PA X [e] ta) (hs : starEach [e] X.env = [(false, eval e X.env)] := by rfl) :
    PI X (.Tuple elts kk tpos) (.Call (.Name "enumerate" p) [e] [] pos) (iEnumQ X.K ta) := by
  refine ⟨fun pins s σ H R I h => ?_⟩
  refine Call_ (ld_blt I hg hm boot_enumerate (PyProof.Rows.callWith_type1 (thn (ha.run pos pins s σ H _ I h) fun us s1 ⟨vs, H1, I1, r1, q1⟩ => ?_) hs rfl))
  obtain ⟨a, xs, ex, q⟩ := q1
  subst ex
  obtain ⟨u, rfl, ru⟩ := vals1 r1
  obtain rfl : u = Value.ref a := ru
  have two : ∀ b ∈ [s1.heap.objs.size + 1, s1.heap.objs.size], FpOk X pins H1 b := fun b hb => by
    have le : s1.heap.objs.size ≤ b := by
      rcases (show b = s1.heap.objs.size + 1 ∨ b = s1.heap.objs.size by simpa using hb) with z | z
      · rw [z]; exact Nat.le_add_right _ _
      · rw [z]; exact Nat.le_refl _
    exact I1.fpOk le (I1.hok.fresh le)
  rcases q with ⟨hq, q⟩ | ⟨hq, q⟩
  · obtain ⟨its, rv, p', hz⟩ := I1.list hq
    refine call_enumerate_list p'.isList fun h' he hit hsz hk => wpAny_pyIter_enum he ?_
    exact ⟨s1.heap.objs.size + 1, [s1.heap.objs.size + 1, s1.heap.objs.size], _, _, H1, rfl, I1.kept (t' := s1.toks) hk, turn_enum a (s1.heap.objs.size + 1) s1.heap.objs.size, ⟨⟨.none, he⟩, hit, Nat.succ_ne_self _⟩, two, q⟩
  · obtain ⟨its, rv, p', hz⟩ := I1.tuple hq
    refine call_enum1 (begins_tuple a its.toArray) (show s1.heap.IsTuple a its.toArray from p') fun h' he hit hsz hk => wpAny_pyIter_enum he ?_
    exact ⟨s1.heap.objs.size + 1, [s1.heap.objs.size + 1, s1.heap.objs.size], _, _, H1, rfl, I1.kept (t' := s1.toks) hk, turn_enumT a (s1.heap.objs.size + 1) s1.heap.objs.size, ⟨⟨.none, he⟩, ⟨_, hit, rfl, rfl⟩, Nat.succ_ne_self _⟩, two, q⟩
end KR
end

section
set_option Elab.async false
set_option linter.all false
set_option maxRecDepth 100000
set_option maxHeartbeats 4000000
/-! x != y of two instances of a class with an own __eq__ (their __ne__ is object's). -/
namespace KR
open PySem PySem.Spec PyProof.Rows L2

theorem ne_plain : plainId "object.__ne__" = true := by decide +kernel
theorem ne_bind (self : Value) : bindSpecial (.builtin "object.__ne__") self = pure (.builtin "object.__ne__", [self]) :=
  (Slot.of (T := "object") (name := "__ne__") (owner := "object") (n := "__ne__") (by rw [typeLookup_type, builtinLookup_eq_fast]; kernel_rfl) (by decide +kernel) (by decide +kernel) (by decide +kernel)
    (.inl (by decide +kernel)) (by rw [isSubtype_type]; kernel_rfl)).bind self
section
variable {prog : Program} {w : World} {A : Around} {E : Value → Shared → Prop} {s : Shared} {K : PySem.W.Frag} {x C f : Addr} {ox : Obj} {od : Option Obj} {b : Value}
theorem ifBound_ne {args : List Value} {Q : Option Value → Shared → Prop} (X : K.In s.heap) (I : PySem.W.InstAt s.heap x ox C od) (hs : PySem.W.findIn K (.ref C) "__ne__" = some (some (.builtin "object.__ne__")))
    (h : wpAny (model prog w) A (call (.builtin "object.__ne__") (.ref x :: args)) (fun v => Q (some v)) E s) : wpAny (model prog w) A (callSpecialIfBound? (.ref x) "__ne__" args) Q E s := by
  simp only [callSpecialIfBound?, bindSpecialIfBound?]
  refine wpAny_holding (wpAny_bind (wpAny_bind (wpAny_bind (I.type.here ((PySem.W.looks_findIn X hs).here ?_)))))
  refine wpAny_bind (wpAny_askSetting (wpAny_ite ?_))
  rw [ne_bind]
  have fin : wpAny (model prog w) A (call (.builtin "object.__ne__") ([.ref x] ++ args) >>= fun v => pure (some v)) Q E s := wpAny_bind (wpAny_mono h (fun v s' h' => wpAny_pure h') fun _ _ h' => h')
  split
  · exact wpAny_bind (wpAny_pure (wpAny_pure (by exact fin)))
  · exact wpAny_tryCatch (wpAny_bind (wpAny_pure (wpAny_pure (by exact fin))))
/-- object.__ne__ on an instance whose class has an own __eq__, which gives True -/
theorem call_ne {Q : Value → Shared → Prop} (hu : A.units + 1 < cLine) (X : K.In s.heap) (I : PySem.W.InstAt s.heap x ox C od) (ho : PySem.W.mroIn K C (.type "object") = some true)
    (hs : PySem.W.findIn K (.ref C) "__eq__" = some (some (.ref f))) (hf : PySem.W.isFn K (.ref f) = true)
    (h : wpAny (model prog w) A.in1 (call (.ref f) [.ref x, b]) (fun v s' => v = .bool true ∧ Q (.bool false) s') E s) : wpAny (model prog w) A (call (.builtin "object.__ne__") [.ref x, b]) Q E s := by
  have hi : PySem.W.Looks (model prog w) s.heap (isInstance (.ref x) (.type "object")) true := I.type.andThen (PySem.W.looks_mroIn X ho)
  refine wpAny_call (codeAny_call_builtin ne_plain F.cmpEntry_ne (PySem.W.check_slot F.cmpKind_ne F.cmpSplit_ne hi (F.cmpArgs_ne _ _) ?_))
  unfold Builtin.«object.__ne__»
  refine wpAny_bind (wpAny_pure ?_)
  refine wpAny_bind (wpAny_cRoomFor (show A.in1.units < cLine from hu) ?_)
  refine wpAny_bind (PySem.W.ifBound_K X I hs hf (wpAny_mono h (fun v s' hv => ?_) fun _ _ e => e))
  obtain ⟨rfl, q⟩ := hv
  refine wpAny_bind (wpAny_truthy_bool ?_)
  exact wpAny_pure q
theorem rc_ne {Q : Value → Shared → Prop} (hu : A.units + 1 < cLine) (X : K.In s.heap) (I : PySem.W.InstAt s.heap x ox C od) (hb : PySem.W.Looks (model prog w) s.heap (typeOf b) (.ref C)) (ho : PySem.W.mroIn K C (.type "object") = some true)
    (hs : PySem.W.findIn K (.ref C) "__eq__" = some (some (.ref f))) (hf : PySem.W.isFn K (.ref f) = true) (hn : PySem.W.findIn K (.ref C) "__ne__" = some (some (.builtin "object.__ne__")))
    (h : wpAny (model prog w) A.in1 (call (.ref f) [.ref x, b]) (fun v s' => v = .bool true ∧ Q (.bool false) s') E s) : wpAny (model prog w) A (richCompare .NotEq (.ref x) b) Q E s := by
  unfold richCompare
  simp only [oneThing_ref]
  refine wpAny_holding (wpAny_bind (wpAny_cRoomFor (by omega) ?_))
  refine wpAny_bind (I.type.here (wpAny_bind (hb.here ?_)))
  simp only [bne_self_eq_false, Bool.false_eq_true, if_false]
  refine wpAny_bind (wpAny_pure ?_)
  simp only [Bool.false_eq_true, if_false]
  refine wpAny_bind ?_
  show wpAny _ _ (tryCompare (.ref x) "__ne__" b) _ _ _
  unfold tryCompare
  refine wpAny_bind (ifBound_ne X I hn (call_ne hu X I ho hs hf (wpAny_mono h (fun v s' hv => ⟨hv.1, ?_⟩) fun _ _ e => e)))
  exact wpAny_pure (wpAny_pure hv.2)
end
/-- the facts of the class -/
structure NeC (K : PySem.W.Frag) (C f : Addr) : Prop where
  eq : PySem.W.findIn K (.ref C) "__eq__" = some (some (.ref f))
  fn : PySem.W.isFn K (.ref f) = true
  ne : PySem.W.findIn K (.ref C) "__ne__" = some (some (.builtin "object.__ne__"))
  top : PySem.W.mroIn K C (.type "object") = some true
def rNeG (D : Eqv) : R2 := fun x y H Q => D x y H ∧ ∀ H', Ext H H' → Q (.bl false) H'
theorem op_neOwn {X : Cx} {CX : CXT} {n : Nat} {C f : Addr} {fd : FuncData} {ps : List Str} {R : Addr → Addr → Hp → Prop} {E : XK} (F : FnOk X.prog X.w X.K X.mg X.base CX n f fd ps (spEq R)) (N : NeC X.K C f) (hb : Binds X.K fd ps []) (hx : Passes CX X E) (hr : Room (n + 1) X.A) :
    OpR X (compareOp .NotEq) (rNeG (DIns C R)) := by
  intro pins s σ H x y u v Q I rx ry h
  obtain ⟨⟨a, b, dx, dy, fs, gs, rfl, rfl, ha, hb', hR⟩, q⟩ := h
  cases rx
  cases ry
  obtain ⟨mA, J, _⟩ := ins_get I.hok ha
  obtain ⟨mB, J', _⟩ := ins_get I.hok hb'
  obtain ⟨od, J, _⟩ := J.look
  obtain ⟨od', J', _⟩ := J'.look
  show wpAny (model X.prog X.w) X.A (richCompare .NotEq (.ref a) (.ref b)) (EP X pins σ Q) X.xe s
  refine rc_ne (by have := hr.units; omega) I.kIn J J'.type N.top N.eq N.fn N.ne ?_
  have hsp : spEq R [.ref a, .ref b] H (fun v H' => v = .bl true ∧ Ext H H') E := ⟨a, b, rfl, hR, fun H' e => ⟨rfl, e⟩⟩
  have hr1 : Room n X.A.in1 := hr.in1
  have e0 : Env0 X.prog X.w X.K X.mg X.base X.A.in1 X.stack s H := by
    have e := I.env0
    exact ⟨e.frames, e.mod, e.bs, e.bsz, e.funs, e.frf, e.hok, e.bare⟩
  have hl := F.len _ _ _ _ hsp
  refine wpAny_call (codeAny_mono (F.run X.A.in1 X.stack s H ⟨[.ref a, .ref b], []⟩ [.ref a, .ref b] [.ref a, .ref b] _ E hr1 e0 (by
    have := hb s [.ref a, .ref b] I.kIn (by simpa using hl)
    simpa using this) (.cons rfl (.cons rfl .nil)) hsp) fun r s' hq => ?_)
  cases r with
  | error e => exact hx pins σ H s e s' I hq
  | ok fl =>
    cases fl with
    | ret w =>
      obtain ⟨z, H', I', rz, ez, ex⟩ := I.after hq
      subst ez
      cases rz
      exact ⟨rfl, .bl false, H', I', rfl, q H' ex⟩
    | next => exact False.elim hq
    | brk => exact False.elim hq
    | cont => exact False.elim hq
end KR
end

section
/-! One row more: what the judge's tables hold. -/
set_option Elab.async false
namespace FR
variable {N : Type} [DecidableEq N]
theorem take_snoc {α : Type} {l : List α} {i : Nat} {x : α} (h : l[i]? = some x) : l.take (i + 1) = l.take i ++ [x] := by
  rw [List.take_add_one, h]
  rfl
theorem find_snoc {α β : Type} (p : α → Bool) (f : α → β) (l : List α) (x : α) : ((l ++ [x]).find? p).map f = ((l.find? p).map f).or (if p x = true then some (f x) else none) := by
  rw [List.find?_append]
  cases e : l.find? p with
  | some y => rfl
  | none =>
    show (List.find? p [x]).map f = (if p x = true then some (f x) else none)
    cases h : p x with
    | true => rw [List.find?_cons_of_pos h]; rfl
    | false => rw [List.find?_cons_of_neg (by simp [h])]; rfl
theorem rankOf_snoc (l : Rows N) (r : Row N) (n : N) : rankOf (l ++ [r]) n = (rankOf l n).or (if r.a = n then some r.k else none) := by
  unfold rankOf
  rw [find_snoc]
  simp only [decide_eq_true_eq]
theorem valueOf_snoc (l : Rows N) (r : Row N) (n : N) : valueOf (l ++ [r]) n = (valueOf l n).or (if r.b = n then some r.v else none) := by
  unfold valueOf
  rw [find_snoc]
  simp only [decide_eq_true_eq]
theorem stepOf_snoc (l : Rows N) (r : Row N) (a b : N) : stepOf (l ++ [r]) a b = (stepOf l a b).or (if r.a = a ∧ r.b = b then some r.s else none) := by
  unfold stepOf
  rw [find_snoc]
  simp only [Bool.and_eq_true, decide_eq_true_eq]
theorem ups_snoc (l : Rows N) (r : Row N) (n : N) : ups (l ++ [r]) n = ups l n ++ if r.b = n ∧ r.s = 1 then [r.a] else [] := by
  unfold ups
  rw [List.filter_append, List.map_append]
  congr 1
  by_cases h : r.b = n ∧ r.s = 1
  · rw [if_pos h, List.filter_cons_of_pos (by simp [h.1, h.2])]
    rfl
  · rw [if_neg h, List.filter_cons_of_neg (by simpa using h)]
    rfl
theorem spot_snoc (l : Rows N) (r : Row N) (n : N) : spot (l ++ [r]) n = (spot l n).or (if r.a = n ∧ r.s = 0 then some l.length else none) := by
  unfold spot
  rw [List.findIdx?_append]
  cases e : l.findIdx? (fun r => decide (r.a = n) && decide (r.s = 0)) with
  | some y => rfl
  | none =>
    show ((List.findIdx? _ [r]).map (· + l.length)) = if r.a = n ∧ r.s = 0 then some l.length else none
    by_cases h : r.a = n ∧ r.s = 0
    · simp [List.findIdx?_cons, h.1, h.2]
    · have h2 : (decide (r.a = n) && decide (r.s = 0)) = false := by simpa using h
      simp [List.findIdx?_cons, h2]
      intro h3 h4
      exact absurd ⟨h3, h4⟩ h
/-- the names of a row of Ok rows are new -/
theorem Ok.new {rs : Rows N} (o : Ok rs) {i : Nat} {r : Row N} (hi : rs[i]? = some r) : ∀ q ∈ rs.take i, ¬ (q.a = r.a ∧ q.b = r.b) := by
  intro q hq e
  obtain ⟨j, h1, h2⟩ := take_of hq
  have := o.one j i q r h2 hi e.1 e.2
  omega
theorem Ok.newStep {rs : Rows N} (o : Ok rs) {i : Nat} {r : Row N} (hi : rs[i]? = some r) : stepOf (rs.take i) r.a r.b = none := by
  cases e : stepOf (rs.take i) r.a r.b with
  | none => rfl
  | some s =>
    obtain ⟨q, hq, h1, h2, _⟩ := stepOf_mem e
    exact absurd ⟨h1, h2⟩ (o.new hi q hq)
theorem Ok.stepPut {rs : Rows N} (o : Ok rs) {i : Nat} {r : Row N} (hi : rs[i]? = some r) (a b : N) : stepOf (rs.take (i + 1)) a b = if a = r.a ∧ b = r.b then some r.s else stepOf (rs.take i) a b := by
  rw [take_snoc hi, stepOf_snoc]
  by_cases h : a = r.a ∧ b = r.b
  · rw [if_pos h, h.1, h.2, o.newStep hi]
    simp
  · rw [if_neg h]
    cases e : stepOf (rs.take i) a b with
    | some y => rfl
    | none =>
      show (if r.a = a ∧ r.b = b then some r.s else none) = none
      rw [if_neg fun z => h ⟨z.1.symm, z.2.symm⟩]
theorem Ok.spotPut {rs : Rows N} (o : Ok rs) {i : Nat} {r : Row N} (hi : rs[i]? = some r) (h0 : r.s = 0) (n : N) : spot (rs.take (i + 1)) n = if n = r.a then some i else spot (rs.take i) n := by
  have hl : (rs.take i).length = i := by
    have := (List.getElem?_eq_some_iff.mp hi).1
    rw [List.length_take]; omega
  rw [take_snoc hi, spot_snoc, hl]
  by_cases h : n = r.a
  · rw [if_pos h, h]
    cases e : spot (rs.take i) r.a with
    | none => simp [h0]
    | some j =>
      unfold spot at e
      obtain ⟨h1, h2, _⟩ := List.findIdx?_eq_some_iff_getElem.mp e
      simp only [Bool.and_eq_true, decide_eq_true_eq] at h2
      have hm : (rs.take i)[j] ∈ rs.take i := List.getElem_mem h1
      have hr : r ∈ rs := List.mem_of_getElem? hi
      have hq : (rs.take i)[j] ∈ rs := List.take_subset _ _ hm
      exact absurd ⟨h2.1, ((o.eq _ hq).mp h2.2).symm.trans (h2.1.trans ((o.eq r hr).mp h0))⟩ (o.new hi _ hm)
  · rw [if_neg h]
    cases e : spot (rs.take i) n with
    | some y => rfl
    | none =>
      show (if r.a = n ∧ r.s = 0 then some i else none) = none
      rw [if_neg fun z => h z.1.symm]
theorem spotSkip {rs : Rows N} {i : Nat} {r : Row N} (hi : rs[i]? = some r) (h0 : r.s ≠ 0) (n : N) : spot (rs.take (i + 1)) n = spot (rs.take i) n := by
  rw [take_snoc hi, spot_snoc]
  cases e : spot (rs.take i) n with
  | some y => rfl
  | none =>
    show (if r.a = n ∧ r.s = 0 then some _ else none) = none
    rw [if_neg fun z => h0 z.2]
end FR
end

section
set_option linter.all false
/-! The first fault, word by word. -/
namespace FR
variable {N : Type} [DecidableEq N]
theorem firstAt_none {f : Nat → Row N → Bool} {rs : Rows N} (h : ∀ j r, rs[j]? = some r → f j r = false) : firstAt f rs = none := by
  unfold firstAt
  rw [List.find?_eq_none]
  intro j hj
  have hj := List.mem_range.mp hj
  have e : rs[j]? = some rs[j] := List.getElem?_eq_getElem hj
  rw [e]
  show ¬ (f j rs[j] = true)
  rw [h j _ e]
  simp
theorem firstAt_some {f : Nat → Row N → Bool} {rs : Rows N} {i : Nat} {r : Row N} (h : ∀ j r, j < i → rs[j]? = some r → f j r = false) (hi : rs[i]? = some r) (hf : f i r = true) : firstAt f rs = some i := by
  unfold firstAt
  have hl := (List.getElem?_eq_some_iff.mp hi).1
  rw [List.find?_range_eq_some]
  refine ⟨by rw [hi]; exact hf, List.mem_range.mpr hl, fun j hj => ?_⟩
  have e : rs[j]? = some rs[j] := List.getElem?_eq_getElem (by omega)
  rw [e]
  show (!f j rs[j]) = true
  rw [h j _ hj e]
  rfl
theorem firstOf_some {g : Nat → Nat → Row N → Bool} {rs : Rows N} {p w : Nat} (hw : w < 6) (h : ∀ v, v < w → firstAt (g v) rs = none) (hf : firstAt (g w) rs = some p) : firstOf g rs = some (p, w) := by
  unfold firstOf
  have key : ∀ n, w < n → (List.range n).findSome? (fun w => (firstAt (g w) rs).map fun p => (p, w)) = some (p, w) := by
    intro n
    induction n with
    | zero => intro h; omega
    | succ n ih =>
      intro hn
      rw [List.range_succ, List.findSome?_append]
      by_cases hwn : w < n
      · rw [ih hwn]
        rfl
      · have e : w = n := by omega
        subst e
        have z : (List.range w).findSome? (fun w => (firstAt (g w) rs).map fun p => (p, w)) = none := by
          rw [List.findSome?_eq_none_iff]
          intro v hv
          rw [h v (List.mem_range.mp hv)]
          rfl
        rw [z]
        simp [hf]
  exact key 6 hw
theorem firstOf_none {g : Nat → Nat → Row N → Bool} {rs : Rows N} (h : ∀ v, v < 6 → firstAt (g v) rs = none) : firstOf g rs = none := by
  unfold firstOf
  rw [List.findSome?_eq_none_iff]
  intro v hv
  rw [h v (List.mem_range.mp hv)]
  rfl
end FR
end

section
set_option linter.all false
/-! Names as lists of codes: a drawn name, an edited one, a fallback. -/
namespace FR
def Lc (c : Nat) : Prop := 97 ≤ c ∧ c ≤ 122
def NameC (l : List Nat) : Prop := l.length ≤ 8 ∧ (∃ c t, l = c :: t ∧ Lc c) ∧ ∀ c ∈ l, Lc c ∨ (48 ≤ c ∧ c ≤ 57)
/-- q and a digit: a fallback, its number below k -/
def FoundOk (k : Nat) (l : List Nat) : Prop := NameC l ∧ ∀ d t, l = 113 :: d :: t → 48 ≤ d → d ≤ 57 → t = [] ∧ d < 48 + k
theorem FoundOk.mono {k m : Nat} {l : List Nat} (h : FoundOk k l) (e : k ≤ m) : FoundOk m l := ⟨h.1, fun d t e1 h1 h2 => ⟨(h.2 d t e1 h1 h2).1, by have := (h.2 d t e1 h1 h2).2; omega⟩⟩
theorem found_one {c : Nat} (h : Lc c) : NameC [c] := ⟨by simp, ⟨c, [], rfl, h⟩, fun x hx => by rw [List.mem_singleton.mp hx]; exact .inl h⟩
theorem found_more {l : List Nat} {c : Nat} (h : NameC l) (hl : l.length < 8) (hc : Lc c ∨ (48 ≤ c ∧ c ≤ 57)) : NameC (l ++ [c]) := by
  obtain ⟨h1, ⟨a, t, e, h2⟩, h3⟩ := h
  refine ⟨by rw [List.length_append, List.length_singleton]; omega, ⟨a, t ++ [c], by rw [e]; rfl, h2⟩, fun x hx => ?_⟩
  rcases List.mem_append.mp hx with z | z
  · exact h3 x z
  · rw [List.mem_singleton.mp z]; exact hc
/-- a name that begins with another sign than q -/
theorem found_not {k : Nat} {l : List Nat} (h : NameC l) (hq : ∀ t, l ≠ 113 :: t) : FoundOk k l := ⟨h, fun d t e => absurd e (hq _)⟩
theorem found_edit {k : Nat} {l : List Nat} (h : FoundOk k l) {i c : Nat} (hi : i < l.length) (hc : Lc c) (hq : c ≠ 113) : FoundOk k (l.take i ++ [c] ++ l.drop (i + 1)) := by
  obtain ⟨⟨h1, ⟨a, t, e, h2⟩, h3⟩, h4⟩ := h
  subst e
  have hn : NameC ((a :: t).take i ++ [c] ++ (a :: t).drop (i + 1)) := by
    refine ⟨?_, ?_, fun x hx => ?_⟩
    · simp only [List.length_append, List.length_take, List.length_singleton, List.length_drop]
      omega
    · cases i with
      | zero => exact ⟨c, t, by simp, hc⟩
      | succ i => exact ⟨a, t.take i ++ [c] ++ t.drop (i + 1), by simp, h2⟩
    · rcases List.mem_append.mp hx with z | z
      · rcases List.mem_append.mp z with z | z
        · exact h3 x (List.mem_of_mem_take z)
        · rw [List.mem_singleton.mp z]; exact .inl hc
      · exact h3 x (List.mem_of_mem_drop z)
  refine ⟨hn, fun d s e hd1 hd2 => ?_⟩
  cases i with
  | zero =>
    simp at e
    exact absurd e.1 hq
  | succ i =>
    cases i with
    | zero =>
      simp at e
      obtain ⟨_, e2, _⟩ := e
      unfold Lc at hc
      omega
    | succ i =>
      cases t with
      | nil => simp at hi
      | cons b t =>
        simp at e
        obtain ⟨e1, e2, e3⟩ := e
        have := (h4 b t (by rw [e1]) (by omega) (by omega)).1
        subst this
        have hi2 : i + 1 + 1 < 2 := hi
        omega
theorem found_fall {k : Nat} (hk : k < 10) : FoundOk (k + 1) [113, 48 + k] := by
  refine ⟨⟨by simp, ⟨113, [48 + k], rfl, by unfold Lc; omega⟩, fun c hc => ?_⟩, fun d t e h1 h2 => ?_⟩
  · simp at hc
    rcases hc with z | z
    · left; unfold Lc; omega
    · right; omega
  · injection e with _ e
    injection e with e1 e2
    exact ⟨e2.symm, by omega⟩
theorem found_fresh {k : Nat} (hk : k < 10) {ls : List (List Nat)} (h : ∀ l ∈ ls, FoundOk k l) : [113, 48 + k] ∉ ls := by
  intro hm
  have := ((h _ hm).2 (48 + k) [] rfl (by omega) (by omega)).2
  omega
end FR
end

section
set_option linter.all false
/-! Keys in order of first appearance, one more. -/
namespace FR
variable {N : Type} [DecidableEq N]
theorem keysOf_snoc (l : List N) (x : N) : keysOf (l ++ [x]) = if x ∈ keysOf l then keysOf l else keysOf l ++ [x] := by
  unfold keysOf
  rw [List.foldl_append]
  rfl
end FR
end

section
set_option Elab.async false
set_option linter.all false
set_option maxRecDepth 100000
set_option maxHeartbeats 4000000
/-! sorted(xs, key=f), f a function made here: its call gives a datum and leaves all as it stands. -/
namespace KR
open PySem PySem.Spec PyProof.Rows L2
section
variable {X : Cx} {pins : List (Addr × Obj)} {σ : L2.St} {H : Hp} {s : Shared}
theorem repin {p : Addr × Obj} (I : Inv X pins σ H s) (h1 : s.heap.get? p.1 = some p.2) (h2 : FpOk X pins H p.1) (h3 : ∀ v, p.2.data ≠ .cell v) : Inv X (p :: pins) σ H s := by
  refine I.pins_of fun r hr => ?_
  rcases List.mem_cons.mp hr with e | e
  · subst e
    exact ⟨h1, h2.1, h2.2.1, h2.2.2.1, h3⟩
  · exact I.pin r (List.mem_append_right _ e)
theorem unpin1 {p : Addr × Obj} (I : Inv X (p :: pins) σ H s) : Inv X pins σ H s := I.pins_of fun r hr => I.pin r (List.mem_append_right _ (List.mem_cons_of_mem _ hr))
theorem vals_snoc {xs : List V} {us : List Value} {x : V} {u : Value} (h : Vals xs us) (r : RelV x u) : Vals (xs ++ [x]) (us ++ [u]) := h.append (.cons r .nil)
abbrev KL := List (V × V × PyData)
theorem sort_key {l f : Addr} {fo : Obj} {L : KL} {Q : VK} (hu : X.A.units + 70 < cLine) (I : Inv X pins σ H s) (hs : SqL X.K H l (L.map (·.1))) (hf : (f, fo) ∈ pins)
    (hk : ∀ q ∈ L, Dp X.K H q.2.1 q.2.2) (hal : PySem.W.AllAlike (L.map (·.2.2))) (hsk : PySem.W.Sortable (L.map (·.2.2))) (hdep : ∀ q ∈ L, q.2.2.depth ≤ 60)
    (turn : ∀ (pins' : List (Addr × Obj)) (s' : Shared) (q : V × V × PyData) (u : Value) (E' : Value → Shared → Prop), q ∈ L → (∀ p ∈ pins, p ∈ pins') → Inv X pins' σ H s' → RelV q.1 u →
      wpAny (model X.prog X.w) X.A.in1.in1 (call (.ref f) [u]) (fun v s'' => Inv X pins' σ H s'' ∧ RelV q.2.1 v) E' s')
    (q : ∀ p, H p = none → Q (.ref p) (upd H p (.lst ((L.mergeSort (PySem.W.dataLe false (·.2.2))).map (·.1))))) :
    wpAny (model X.prog X.w) X.A (call (.builtin "sorted") [.ref l] [(Str.ofString "key", .ref f)]) (EP X pins σ Q) X.xe s := by
  obtain ⟨its, rv, hl, hz⟩ := I.list hs
  rw [List.length_map] at hz
  have hil : its.length = L.length := by
    have := rv.length
    rw [List.length_map] at this
    exact this.symm
  have hzi : its.length ≤ sizeLine := by rw [hil]; exact hz
  refine PySem.W.sorted_of_sort (vs := its) hl.isList hzi (ksk_s1 _ _) (fun _ => ksk_l1 _ _) fun E' => ?_
  rw [ksk_t1]
  generalize ha : s.heap.objs.size + 1 = a
  have hle : s.heap.objs.size ≤ a := by omega
  have I0 : Inv X pins σ H { s with heap := PySem.W.copyHeap s.heap its } := I.kept (t' := s.toks) fun _ _ => PySem.W.copyHeap_old
  have ho : (PySem.W.copyHeap s.heap its).get? a = some (seqObj "list" its.toArray 0) := by rw [← ha]; exact PySem.W.copyHeap_at _ _
  have fa : FpOk X pins H a := I.fpOk hle (I.hok.fresh hle)
  generalize PySem.W.copyHeap s.heap its = h0 at I0 ho ⊢
  obtain ⟨e1, ho1⟩ : ∃ e1, (h0.update a (Obj.mapSeq fun _ => (#[] : Array Value))).get? a = some (seqObj "list" #[] e1) := ⟨_, get?_update_seq ho fun _ => #[]⟩
  have s1 := Heap.SameBut.update h0 a (Obj.mapSeq fun _ => (#[] : Array Value))
  have I1 : Inv X pins σ H { s with heap := h0.update a (Obj.mapSeq fun _ => (#[] : Array Value)) } := L2.Inv.turnedL (s := ({ s with heap := h0 } : Shared)) (t' := s.toks) (ch := [a]) I0 (fun b o hb e => (s1.2 b (fun z => hb (by simp [z]))).trans e) (fun b hb => by rw [List.mem_singleton.mp hb]; exact fa)
  unfold ksk_tree
  refine wpAny_bind (listItems_at ho rfl ?_)
  refine wpAny_bind (listUpdate_at ho rfl ?_ (by rw [List.size_toArray]; exact hzi) (Nat.zero_le _))
  refine wpAny_bind (seqEpoch_at ho1 rfl ?_)
  refine wpAny_bind (wpAny_newTuple ?_ (by show its.length ≤ _; exact hzi))
  refine wpAny_bind (wpAny_newList ?_ (Nat.zero_le _))
  refine wpAny_holding ?_
  show wpAny (model X.prog X.w) X.A.in1.in1 (ksk_rest a (.ref f) false its.toArray e1 (.ref ((h0.update a (Obj.mapSeq fun _ => (#[] : Array Value))).push (seqObj "tuple" its.toArray 0)).objs.size)) _ _ { s with heap := ((h0.update a (Obj.mapSeq fun _ => (#[] : Array Value))).push (seqObj "tuple" its.toArray 0)).push (seqObj "list" #[] 0) }
  have I2 : Inv X pins σ H { s with heap := (h0.update a (Obj.mapSeq fun _ => (#[] : Array Value))).push (seqObj "tuple" its.toArray 0) } := I1.kept (t' := s.toks) fun _ _ e => Heap.get?_push_of_some _ e
  have ho2 : ((h0.update a (Obj.mapSeq fun _ => (#[] : Array Value))).push (seqObj "tuple" its.toArray 0)).get? a = some (seqObj "list" #[] e1) := Heap.get?_push_of_some _ ho1
  generalize (h0.update a (Obj.mapSeq fun _ => (#[] : Array Value))).push (seqObj "tuple" its.toArray 0) = h2 at I2 ho2 ⊢
  generalize hkS : h2.objs.size = kS
  have hka : kS ≠ a := Nat.ne_of_gt (by rw [← hkS]; exact Heap.lt_size ho2)
  have fk : FpOk X pins H kS := I2.fpOk (Nat.le_of_eq hkS) (I2.hok.fresh (Nat.le_of_eq hkS))
  have I3 : Inv X pins σ H { s with heap := h2.push (seqObj "list" #[] 0) } := I2.kept (t' := s.toks) fun _ _ e => Heap.get?_push_of_some _ e
  have nk3 : (h2.push (seqObj "list" #[] 0)).get? kS = some (seqObj "list" #[] 0) := by rw [← hkS]; exact Heap.get?_push_size _ rfl
  have na3 : (h2.push (seqObj "list" #[] 0)).get? a = some (seqObj "list" #[] e1) := Heap.get?_push_of_some _ ho2
  generalize h2.push (seqObj "list" #[] 0) = h3 at I3 nk3 na3 ⊢
  have noc : ∀ (xs : Array Value) (n : Nat) (v : Option Value), (seqObj "list" xs n).data ≠ .cell v := fun _ _ _ z => by cases z
  have fk' : FpOk X ((a, seqObj "list" #[] e1) :: pins) H kS := ⟨fk.1, fk.2.1, fk.2.2.1, fk.2.2.2.1, fk.2.2.2.2.1, fun p hp => by
    rcases List.mem_append.mp hp with z | z
    · exact fk.2.2.2.2.2 p (List.mem_append_left _ z)
    · rcases List.mem_cons.mp z with z | z
      · rw [z]; exact hka.symm
      · exact fk.2.2.2.2.2 p (List.mem_append_right _ z)⟩
  unfold ksk_rest
  refine wpAny_bind (wpAny_rule ?_)
  first
    | rw [List.forIn_toArray]
    | (rw [← Array.forIn_toList]; simp only [List.toList_toArray])
    | rw [← Array.forIn_toList]
  refine wpAny_bind (ksk_fold (fun i s' => ∃ kA e, Inv X ((kS, seqObj "list" kA e) :: (a, seqObj "list" #[] e1) :: pins) σ H s' ∧ Vals ((L.take i).map (·.2.1)) kA.toList) its 0 _
    ⟨#[], 0, repin (repin I3 na3 fa (noc _ _)) nk3 fk' (noc _ _), by rw [List.take_zero]; exact .nil⟩ ?step ?done)
  case step =>
    rintro j x s' hx ⟨kA, e, J, hv⟩
    rw [Nat.zero_add] at hv ⊢
    have hj : j < its.length := (List.getElem?_eq_some_iff.mp hx).1
    obtain ⟨qj, hqj⟩ : ∃ qj, L[j]? = some qj := ⟨_, List.getElem?_eq_getElem (by omega)⟩
    have hqm := List.mem_of_getElem? hqj
    have rx : RelV qj.1 x := by
      obtain ⟨u, hu2, ru⟩ := rv.get (i := j) (by rw [List.getElem?_map, hqj]; rfl)
      rw [hx] at hu2
      rw [Option.some.inj hu2]
      exact ru
    have hz2 : kA.size ≤ its.length := by
      have h1 := hv.length
      rw [List.length_map, List.length_take] at h1
      have h2 : kA.toList.length = kA.size := Array.length_toList
      omega
    refine wpAny_bind (wpAny_attempt (wpAny_mono (turn _ s' qj x (fun _ _ => False) hqm (fun p hp => List.mem_cons_of_mem _ (List.mem_cons_of_mem _ hp)) J rx) (fun v s'' he => ?_) fun _ _ hF => hF.elim))
    obtain ⟨J2, rk⟩ := he
    try dsimp only
    have nk2 : s''.heap.get? kS = some (seqObj "list" kA e) := (J2.pin (kS, seqObj "list" kA e) (List.mem_append_right _ List.mem_cons_self)).1
    have sU := Heap.SameBut.update s''.heap kS (Obj.mapSeq (·.push v))
    obtain ⟨c2, hc2⟩ : ∃ c2, (s''.heap.update kS (Obj.mapSeq (·.push v))).get? kS = some (seqObj "list" (kA.push v) c2) := ⟨_, get?_update_seq nk2 (·.push v)⟩
    refine wpAny_bind (listUpdate_at nk2 rfl ?_ (Nat.le_trans hz2 hzi) (Nat.le_trans (Nat.le_of_eq (Array.size_push ..)) (Nat.succ_le_succ (Nat.le_trans hz2 hzi))))
    have J3 : Inv X ((a, seqObj "list" #[] e1) :: pins) σ H { s'' with heap := s''.heap.update kS (Obj.mapSeq (·.push v)) } :=
      (unpin1 J2).turnedL (t' := s''.toks) (ch := [kS]) (fun b o hb e => (sU.2 b (fun z => hb (by simp [z]))).trans e) (fun b hb => by rw [List.mem_singleton.mp hb]; exact fk')
    refine wpAny_pure ⟨rfl, kA.push v, c2, repin J3 hc2 fk' (noc _ _), ?_⟩
    have ek : L.take (j + 1) = L.take j ++ [qj] := by rw [List.take_add_one, hqj]; rfl
    rw [ek, List.map_append, Array.toList_push]
    exact vals_snoc hv rk
  case done =>
    rintro s' ⟨kA, e, J, hv⟩
    rw [show 0 + its.length = L.length by omega, List.take_length] at hv
    have Ja := unpin1 J
    have Jp := unpin1 Ja
    have nk' : s'.heap.get? kS = some (seqObj "list" kA e) := (J.pin (kS, seqObj "list" kA e) (List.mem_append_right _ List.mem_cons_self)).1
    have na' : s'.heap.get? a = some (seqObj "list" #[] e1) := (J.pin (a, seqObj "list" #[] e1) (List.mem_append_right _ (List.mem_cons_of_mem _ List.mem_cons_self))).1
    have hk' : PySem.W.EachIs (fun v d => ∃ as, Reads s'.heap v d as) kA.toList (L.map (·.2.2)) := by
      have key : ∀ (M : KL) (us : List Value), (∀ q ∈ M, Dp X.K H q.2.1 q.2.2) → Vals (M.map (·.2.1)) us → PySem.W.EachIs (fun v d => ∃ as, Reads s'.heap v d as) us (M.map (·.2.2)) := by
        intro M
        induction M with
        | nil =>
          intro us _ h
          cases us with
          | nil => exact .nil
          | cons _ _ => cases h
        | cons q M ih =>
          intro us hm h
          cases us with
          | nil => cases h
          | cons u us =>
            cases h with
            | cons h1 h2 => exact .cons (Dp.reads Jp q.2.2 q.2.1 u (hm q List.mem_cons_self) h1) (ih us (fun y hy => hm y (List.mem_cons_of_mem _ hy)) h2)
      exact key L _ hk hv
    have hsz : kA.size = its.length := by
      have h1 := hk'.length
      rw [List.length_map] at h1
      have h2 : kA.toList.length = kA.size := Array.length_toList
      omega
    try dsimp only
    refine wpAny_bind (listItems_at nk' rfl ?_)
    refine PySem.W.keyH_end (κ := PySem.W.dataKind s'.heap (L.map (·.2.2))) (h₁ := PySem.W.hideAll s'.heap [kS]) (fun b o _ e => PySem.W.of_hideAll _ e) (PySem.W.hideAll_none _ (by simp)) nk' na' hka (PySem.W.SortsAt.data (s := s') hk' hal hsk (fun d hd => ?_)) hsz hzi fun h4 tk4 c k4 n4 => ⟨rfl, ?_⟩
    · obtain ⟨qd, hqd, rfl⟩ := List.mem_map.mp hd
      have := hdep qd hqd
      show X.A.units + 1 + 1 + qd.2.2.depth < cLine
      omega
    · have ko : PySem.W.KeyedOut false (L.map (·.2.2)) its (PySem.W.sortVals (PySem.W.dataKind s'.heap (L.map (·.2.2))) false kA.toList its) := ⟨s'.heap, kA.toList, hal, rfl, hk'⟩
      have er : PySem.W.EachIs (fun u (q : V × V × PyData) => RelV q.1 u) its L := by
        have key : ∀ (M : KL) (us : List Value), Vals (M.map (·.1)) us → PySem.W.EachIs (fun u (q : V × V × PyData) => RelV q.1 u) us M := by
          intro M
          induction M with
          | nil =>
            intro us h
            cases us with
            | nil => exact .nil
            | cons _ _ => cases h
          | cons q M ih =>
            intro us h
            cases us with
            | nil => cases h
            | cons u us =>
              cases h with
              | cons h1 h2 => exact .cons h1 (ih us h2)
        exact key L its rv
      have eo := PySem.W.keyedOut_each (k := fun q : V × V × PyData => q.2.2) ko er
      have vo : Vals ((L.mergeSort (PySem.W.dataLe false (·.2.2))).map (·.1)) (PySem.W.sortVals (PySem.W.dataKind s'.heap (L.map (·.2.2))) false kA.toList its) := by
        have key : ∀ (us : List Value) (M : KL), PySem.W.EachIs (fun u (q : V × V × PyData) => RelV q.1 u) us M → Vals (M.map (·.1)) us := by
          intro us M h
          induction h with
          | nil => exact .nil
          | cons h1 _ ih => exact .cons h1 ih
        exact key _ _ eo
      have J4 : Inv X pins σ H { s' with heap := h4, toks := tk4 } := Jp.turnedL (t' := tk4) (ch := [kS, a]) (fun b o hb e => k4 b o (fun z => hb (by simp [z])) (PySem.W.hideAll_get _ e (fun z => hb (by simp at z; simp [z])))) (fun b hb => by
        rcases (show b = kS ∨ b = a by simpa using hb) with z | z
        · rw [z]; exact fk
        · rw [z]; exact fa)
      have hln : ((L.mergeSort (PySem.W.dataLe false (·.2.2))).map (·.1)).length ≤ sizeLine := by rw [List.length_map, List.length_mergeSort]; exact hz
      have J5 := J4.take (h' := h4) (t' := tk4) (it := a) (o := .lst ((L.mergeSort (PySem.W.dataLe false (·.2.2))).map (·.1))) (fun _ _ _ e => e) fa ⟨hln, _, c, vo, n4⟩
      exact ⟨.ref a, _, J5, rfl, q a fa.1⟩
end
end KR
end

section
set_option Elab.async false
set_option linter.all false
set_option maxRecDepth 100000
set_option maxHeartbeats 4000000
/-! sorted(xs, key=lambda ..: ..). -/
namespace KR
open PySem PySem.Spec PyProof.Rows L2 NdefX
section
variable {X : Cx} {pins : List (Addr × Obj)} {σ : L2.St} {H : Hp} {s : Shared}
abbrev lamF (X : Cx) (params : Arguments) (scope : Scope) (c' : Addr) : NF := ⟨"<lambda>", X.env.qual ++ "<lambda>", params, [], scope, cloFrom X.env.cells scope.names [], c'⟩
/-- the call of the lambda: a value, all as it stood -/
theorem lam_call {N ps fr : List Str} {js : List Nat} {params : Arguments} {body : Expr} {scope : Scope} {f c' : Addr} {pm ctv : Value} {tb : TE} {x kv : V} {u : Value} {E' : Value → Shared → Prop}
    (I : Inv X pins σ H s) (hf : (f, PySem.W.kla_obj "<lambda>" (X.env.qual ++ "<lambda>") params body scope (cloFrom X.env.cells scope.names []) pm c' ctv) ∈ pins) (hc : H c' = some (LamX.CodeO c' (X.env.qual ++ "<lambda>")))
    (S : NScope N ps fr scope) (C : Caps X (cloFrom X.env.cells scope.names []) fr js) (hr : Room 3 X.A) (h1 : ps.length = 1)
    (hbind : ∀ us : List Value, us.length = ps.length → bindArgs (PySem.W.kla_fn "<lambda>" (X.env.qual ++ "<lambda>") params body scope (cloFrom X.env.cells scope.names []) pm (.ref c') ctv) ⟨us, []⟩ = pure (ps.zip us))
    (hbody : PE (ncx CX0 X.prog X.w X.K X.mg X.base N (lamF X params scope c') f X.A.in1.in1 X.stack s H E0) body tb) (ru : RelV x u)
    (ht : tb (startF N [x] (js.map (slotAt σ))) H (fun v H' => v = kv ∧ H' = H)) :
    wpAny (model X.prog X.w) X.A.in1.in1 (call (.ref f) [u]) (fun v s'' => Inv X pins σ H s'' ∧ RelV kv v) E' s := by
  have of1 := (I.pin _ (List.mem_append_right _ hf)).1
  have hr' : Room 1 X.A.in1.in1 := hr.in1.in1
  have e := I.env0
  have e0 : Env0 X.prog X.w X.K X.mg X.base X.A.in1.in1 X.stack s H := ⟨e.frames, e.mod, e.bs, e.bsz, e.funs, e.frf, e.hok, e.bare⟩
  have lim : s.heap.NoLimit := I.nolimit
  have Cl := cells_of I C
  obtain ⟨⟨oc, vs, t, hoc, hdc, hvc⟩, _, _⟩ := I.hok c' _ hc
  have rc : codeAny (model X.prog X.w) X.A.in1.in1 (.call (.ref f) ⟨[u], []⟩) (CR CX0 X.stack X.prog X.w H s (fun v H' => v = kv ∧ H' = H) E0) s := by
    refine PySem.W.kla_callFunE hr'.depth of1 rfl S.co S.gen rfl ⟨c', oc, vs, t, rfl, hoc, hdc, hvc⟩ ?_
    rw [hbind [u] (by rw [h1]; rfl)]
    refine wpAny_pure (wpAny_newFunctionEnv S.nocell (fun ⟨n, _⟩ hy => S.par n (List.of_mem_zip hy).1) (fun h₁ hns hsb => ⟨lim.fresh _ hsb, ?_⟩) S.kind)
    have kp : ∀ b o, s.heap.get? b = some o → h₁.get? b = some o := fun b o e => hsb.extBut b o (Nat.ne_of_lt (Heap.lt_size e)) (Heap.get?_push_of_some _ e)
    show codeAny _ _ (.expr body (envF (lamF X params scope c') f s.heap.objs.size)) _ _
    have J : Inv (ncx CX0 X.prog X.w X.K X.mg X.base N (lamF X params scope c') f X.A.in1.in1 X.stack s H E0) [] (startF N [x] (js.map (slotAt σ))) H { s with heap := h₁, toks := s.toks + (ps.zip [u]).length } := inv_startN S hr'.hd e0 (by rw [h1]; rfl) (.cons ru .nil) Cl hns kp
    refine PySem.W.kla_codeExpr (wpAny_mono (hbody.run [] _ _ H _ J ht) (fun v s' hq => ?_) fun e s' hq => hq)
    obtain ⟨w', H', J', rv, q⟩ := hq
    exact ⟨w', H', J'.os, J'.bare, J'.base, J'.hok, rv, q⟩
  refine wpAny_call (codeAny_mono rc fun r s' hq => ?_)
  cases r with
  | error e => exact (show False from hq).elim
  | ok fl =>
    cases fl with
    | ret v =>
      obtain ⟨z, H', J, rz, ez, eH⟩ := I.after hq
      subst ez
      rw [eH] at J
      exact ⟨J, rz⟩
    | next => exact False.elim hq
    | brk => exact False.elim hq
    | cont => exact False.elim hq
def tSL (K : PySem.W.Frag) (T : List (Addr × Str)) (N : List Str) (js : List Nat) (te tb : TE) : TE := fun σ H Q => te σ H fun x0 H1 => ∃ x, [x0] = [x] ∧ ∃ (l : Addr) (L : KL), x = .ref l ∧ LamX.Tabs T H1 ∧ ∀ H2, LamX.ExtN H1 H2 → LamX.Tabs T H2 → SqL K H2 l (L.map (·.1)) ∧
  (∀ q ∈ L, Dp K H2 q.2.1 q.2.2) ∧ PySem.W.AllAlike (L.map (·.2.2)) ∧ PySem.W.Sortable (L.map (·.2.2)) ∧ (∀ q ∈ L, q.2.2.depth ≤ 60) ∧ (∀ q ∈ L, tb (startF N [q.1] (js.map (slotAt σ))) H2 (fun v H' => v = q.2.1 ∧ H' = H2)) ∧
  ∀ p, H2 p = none → Q (.ref p) (upd H2 p (.lst ((L.mergeSort (PySem.W.dataLe false (·.2.2))).map (·.1))))
theorem pe_sortLam {T : List (Addr × Str)} {N ps fr : List Str} {js : List Nat} {c P : Addr} {params : Arguments} {body e : Expr} {scope : Scope} {te tb : TE} {p lpos kpos pos : Pos} (hg : Gl X "sorted") (hm : X.mg "sorted" = none) (he : PE X e te)
    (TB : LamX.TabB X.base X.mg c P) (hcode : X.env.code = .ref c) (hmT : (P, X.env.qual ++ "<lambda>") ∈ T) (hu : ∀ p ∈ T, p.1 = P → p.2 = X.env.qual ++ "<lambda>") (hdef : defaultsOf params X.env = ([], []))
    (S : NScope N ps fr scope) (hfree : ∀ y ∈ scope.names, y.2 = .free → X.env.scope.names.lookup y.1 = some .cell ∨ X.env.scope.names.lookup y.1 = some .free) (hfr : ∀ y ∈ fr, (y, NameKind.free) ∈ scope.names) (hjs : js.map (fun j => X.N[j]?) = fr.map some)
    (hr : Room 3 X.A) (h1 : ps.length = 1)
    (hbind : ∀ (pm ctv : Value) (c' : Addr) (us : List Value), us.length = ps.length → bindArgs (PySem.W.kla_fn "<lambda>" (X.env.qual ++ "<lambda>") params body scope (cloFrom X.env.cells scope.names []) pm (.ref c') ctv) ⟨us, []⟩ = pure (ps.zip us))
    (hbody : ∀ (f c' : Addr) (s : Shared) (H : Hp), PE (ncx CX0 X.prog X.w X.K X.mg X.base N (lamF X params scope c') f X.A.in1.in1 X.stack s H E0) body tb)
    (hst : backTo pos (starEach [e] X.env) = (false, eval e X.env) :: backTo pos (starEach [] X.env) := by rfl) (hpl : (backTo pos (starEach [e] X.env)).any (·.1) = false := by rfl)
    (hst2 : starEach [e] X.env = (false, eval e X.env) :: starEach [] X.env := by rfl) :
    PE X (.Call (.Name "sorted" p) [e] [⟨some "key", .Lambda params body scope lpos, kpos⟩] pos) (tSL X.K T N js te tb) := by
  refine ⟨fun pins s σ H Q I h => ?_⟩
  refine wpAny_Call_Name_kw (ld_blt I hg hm boot_sorted ?_ (by decide) (by decide))
  have pa : PA X [e] (tCons te tNil) := pa_cons he pa_nil (hs := hst2)
  refine PyProof.Rows.callWith_kw (thn (pa.run pos pins s σ H (fun vs H1 => ∃ x, vs = [x] ∧ ∃ (l : Addr) (L : KL), x = .ref l ∧ LamX.Tabs T H1 ∧ ∀ H2, LamX.ExtN H1 H2 → LamX.Tabs T H2 → SqL X.K H2 l (L.map (·.1)) ∧
      (∀ q ∈ L, Dp X.K H2 q.2.1 q.2.2) ∧ PySem.W.AllAlike (L.map (·.2.2)) ∧ PySem.W.Sortable (L.map (·.2.2)) ∧ (∀ q ∈ L, q.2.2.depth ≤ 60) ∧ (∀ q ∈ L, tb (startF N [q.1] (js.map (slotAt σ))) H2 (fun v H' => v = q.2.1 ∧ H' = H2)) ∧
      ∀ p, H2 p = none → Q (.ref p) (upd H2 p (.lst ((L.mergeSort (PySem.W.dataLe false (·.2.2))).map (·.1))))) I ?_) fun us s1 ⟨vs, H1, I1, r1, q1⟩ => ?_) hst hpl
  · exact h
  · obtain ⟨x, rfl, l, L, rfl, hT, q2⟩ := q1
    obtain ⟨u, rfl, ru⟩ := vals1 r1
    obtain rfl : u = Value.ref l := ru
    show wpAny _ _ (evalAll [(do let v ← eval (.Lambda params body scope lpos) X.env; standAt pos; pure v)]) _ _ s1
    refine wpAny_evalAll_cons (wpAny_bind (LamX.lam_make2 I1 TB hcode hmT hu hT hdef (fun y hy e => (hfree y hy e).elim (fun z => I1.ok.has _ (.inl z)) fun z => I1.ok.has _ (.inr z)) fun f c' pm ctv H2 s2 I2 eN T2 hf hfn hfrs hco => wpAny_bind (wpAny_standAt (wpAny_pure (wpAny_evalAll_nil ?_)))))
    obtain ⟨g1, g2, g3, g4, g5, g6, g7⟩ := q2 H2 eN T2
    show wpAny (model X.prog X.w) X.A (call (.builtin "sorted") [.ref l] [(Str.ofString "key", .ref f)]) (EP X pins σ Q) X.xe s2
    have nloc : f ≠ X.env.locals := fun z => by
      obtain ⟨m, ⟨o, es, ep, ho, hd, _⟩, _⟩ := I2.loc
      rw [← z, hf] at ho
      rw [← Option.some.inj ho] at hd
      cases hd
    have nfs : f ∉ X.fs := fun z => hfrs (by
      rcases I2.ok.stk with e | ⟨e, hf⟩
      · rw [e]; exact z
      · rw [e]
        unfold frs
        rw [List.filterMap_cons, hf]
        exact List.mem_cons_of_mem _ z)
    have I3 : Inv X ((f, PySem.W.kla_obj "<lambda>" (X.env.qual ++ "<lambda>") params body scope (cloFrom X.env.cells scope.names []) pm c' ctv) :: pins) σ H2 s2 := I2.pins_of fun r hr => by
      rcases List.mem_cons.mp hr with e | e
      · subst e
        exact ⟨hf, hfn, nloc, nfs, fun v z => by cases z⟩
      · exact I2.pin r (List.mem_append_right _ e)
    have hun : X.A.units + 70 < cLine := by have := hr.un; omega
    refine wpAny_mono (sort_key hun I3 g1 List.mem_cons_self g2 g3 g4 g5 (fun pins' s' q u E' hq hp J rq => ?_) g7) (fun v s' hq => ?_) fun _ _ e => e
    · exact lam_call J (hp _ List.mem_cons_self) hco S (Caps.made J.ok hfree hfr hjs) hr h1 (hbind pm ctv c') (hbody f c' s' H2) rq (g6 q hq)
    · obtain ⟨z, H', J, rz, qz⟩ := hq
      exact ⟨z, H', unpin1 J, rz, qz⟩
end
end KR
end

section
set_option Elab.async false
set_option linter.all false
set_option maxRecDepth 100000
set_option maxHeartbeats 4000000
/-! list + list, one of them written; one rule or another. -/
namespace KR
open PySem PySem.Spec PyProof.Rows L2
section
variable {X : Cx}
def rCatL (K : PySem.W.Frag) : R2 := fun x y H Q => ∃ l b xs zs, x = .ref l ∧ y = .ref b ∧ SqL K H l xs ∧ SqL K H b zs ∧ xs.length + zs.length ≤ sizeLine ∧ ∀ p, H p = none → Q (.ref p) (upd H p (.lst (xs ++ zs)))
theorem op_catL : OpR X (binaryOp .Add) (rCatL X.K) := by
  intro pins s σ H x y v u Q I rx ry h
  obtain ⟨l, b, xs, zs, rfl, rfl, hH, hB, hz, q⟩ := h
  cases rx
  cases ry
  obtain ⟨its, r, p1, hl⟩ := I.list hH
  obtain ⟨its2, r2, p2, hl2⟩ := I.list hB
  have l1 := r.length
  have l2 := r2.length
  obtain ⟨⟨cls, dd, data, sl⟩, ho, hc, n, hd⟩ := id p1.isList
  obtain ⟨⟨cls2, dd2, data2, sl2⟩, ho2, hc2, n2, hd2⟩ := id p2.isList
  simp only at hc hd hc2 hd2
  subst hc hd hc2 hd2
  have e : its.toArray ++ its2.toArray = (its ++ its2).toArray := by simp
  refine concat_meets ⟨_, ho, rfl⟩ ⟨_, ho2, rfl⟩ noFill_list_add seq_list_add PySem.F.slot_list_add PySem.F.entry_list_add (PySem.F.args_list_add_2 _ _) (list_addW l b its.toArray its2.toArray n n2 dd dd2 sl sl2 (by rw [List.size_toArray, List.size_toArray]; omega)) ⟨ho, ho2, ?_⟩
  rw [e]
  exact ⟨.ref _, _, I.lnew (t' := s.toks) (r.append r2) (by rw [List.length_append]; omega), rfl, q _ I.fresh⟩
theorem op_either {f : Value → Value → Sem Value} {r1 r2 : R2} (h1 : OpR X f r1) (h2 : OpR X f r2) : OpR X f (fun x y H Q => r1 x y H Q ∨ r2 x y H Q) := by
  intro pins s σ H x y v u Q I rx ry h
  rcases h with h | h
  · exact h1 pins s σ H x y v u Q I rx ry h
  · exact h2 pins s σ H x y v u Q I rx ry h
theorem call_listK (K : PySem.W.Frag) (hK : X.K = K) : CallR X (.type "list") (fun xs H Q => ∃ p ys, xs = [.ref p] ∧ (SqL K H p ys ∨ SqT K H p ys) ∧ ∀ l, H l = none → Q (.ref l) (upd H l (.lst ys))) := hK ▸ call_list_of
end
end KR
end

section
set_option Elab.async false
set_option linter.all false
set_option maxRecDepth 100000
set_option maxHeartbeats 4000000
/-! The text by places; what the top leaves; a def as its callers know it. -/
namespace KW
open PySem PySem.Spec PyProof.Rows L2 KR
def top (i : Nat) : Stmt := PySem.Challenge.pw_forestrows_k22_whole_pair_rows_judged.main.body.getD i (.Pass ⟨0, 0, 0, 0⟩)
/-- a def of the top; a method -/
def dfn (x : Str) (i : Nat) : He.DefD := ⟨(x, none), x, x, defArgs (top i), defBody (top i), defScope (top i), [], []⟩
def mth (c m q : Str) (i j : Nat) : He.DefD := ⟨(c, some m), m, q, defArgs (inClass (top i) j), defBody (inClass (top i) j), defScope (inClass (top i) j), [], []⟩
def dIsInteger := dfn "is_integer" 14
def dIsSequence := dfn "is_sequence" 15
def dIsName := dfn "is_name" 16
def dIsValue := dfn "is_value" 17
def dPairWord := dfn "pair_word" 22
def dJudgePairs := dfn "judge_pairs" 24
def dRowFault := dfn "row_fault" 28
def dWell := dfn "_law_well" 36
def dDraw := dfn "_law_draw" 37
def dOne := dfn "_law_one" 38
def dNames := dfn "_law_names" 39
def dValue := dfn "_law_value" 40
def dLevels := dfn "_law_levels" 41
def dRows := dfn "_law_rows" 42
def dPairs := dfn "_law_pairs" 43
def dMixed := dfn "_law_mixed" 44
def dHas := dfn "_law_has" 45
def dParent := dfn "_law_parent" 46
def dLineW := dfn "_law_is_line_wrong" 47
def dOrderW := dfn "_law_is_order_wrong" 48
def dWrong := dfn "_law_is_wrong" 49
def dDue := dfn "_law_due" 50
def dSpoil := dfn "_law_spoil" 51
def dLaw := dfn "law" 52
def dEq := mth "Thing" "__eq__" "Thing.__eq__" 13 2
def dFInit := mth "Fault" "__init__" "Fault.__init__" 21 0
def dFName := mth "Fault" "class_name" "Fault.class_name" 21 1
def dFFacts := mth "Fault" "facts" "Fault.facts" 21 2
def dJInit := mth "PairJudge" "__init__" "PairJudge.__init__" 23 0
def dJUpper := mth "PairJudge" "first_upper" "PairJudge.first_upper" 23 1
def dJSelf := mth "PairJudge" "is_self_missing" "PairJudge.is_self_missing" 23 2
def dJLine := mth "PairJudge" "is_line_broken" "PairJudge.is_line_broken" 23 3
def dJGap := mth "PairJudge" "is_gap" "PairJudge.is_gap" 23 4
def dJRank := mth "PairJudge" "is_rank_other" "PairJudge.is_rank_other" 23 5
def dJValue := mth "PairJudge" "is_value_other" "PairJudge.is_value_other" 23 6
def dJOrder := mth "PairJudge" "is_order_broken" "PairJudge.is_order_broken" 23 7
def dJFault := mth "PairJudge" "fault" "PairJudge.fault" 23 8
def dForestInit := mth "Forest" "__init__" "Forest.__init__" 29 1
def dForest := mth "Table" "forest" "Table.forest" 31 7
def dPInit := mth "PairTable" "__init__" "PairTable.__init__" 34 0
def dPPut := mth "PairTable" "put_rows" "PairTable.put_rows" 34 3
def dPNames := mth "PairTable" "names" "PairTable.names" 34 4
def dPWorth := mth "PairTable" "worth" "PairTable.worth" 34 6
def dPLine := mth "PairTable" "line_to" "PairTable.line_to" 34 7
def fns : List He.DefD := [dIsInteger, dIsSequence, dIsName, dIsValue, dPairWord, dJudgePairs, dRowFault, dWell, dDraw, dOne, dNames, dValue, dLevels, dRows, dPairs, dMixed, dHas, dParent, dLineW, dOrderW, dWrong, dDue, dSpoil, dLaw,
  dEq, dFInit, dFName, dFFacts, dJInit, dJUpper, dJSelf, dJLine, dJGap, dJRank, dJValue, dJOrder, dJFault, dForestInit, dForest, dPInit, dPPut, dPNames, dPWorth, dPLine]
def frees : List Str := ["len", "isinstance", "int", "bool", "str", "list", "tuple", "all", "any", "range", "enumerate", "sorted"]
def globs : List Str := ["Thing", "Fault", "PairJudge", "Forest", "Table", "PairTable", "is_integer", "is_sequence", "is_name", "is_value", "pair_word", "judge_pairs", "row_fault", "_law_well", "_law_draw", "_law_one", "_law_names", "_law_value", "_law_levels", "_law_rows", "_law_pairs", "_law_mixed", "_law_has", "_law_parent",
  "_law_is_line_wrong", "_law_is_order_wrong", "_law_is_wrong", "_law_due", "_law_spoil", "law"]
/-- what the top leaves -/
structure TX (K : PySem.W.Frag) (mg : Str → Option Value) : Prop where
  fn : ∀ (i : Nat) (d : He.DefD), fns[i]? = some d → ∃ fd, FunD K d.name d.qual d.params d.body d.scope [] [] (He.fAd K d.at_) fd
  len : mg "len" = none
  isi : mg "isinstance" = none
  int : mg "int" = none
  bool : mg "bool" = none
  str : mg "str" = none
  list : mg "list" = none
  tuple : mg "tuple" = none
  all : mg "all" = none
  any : mg "any" = none
  range : mg "range" = none
  enum : mg "enumerate" = none
  sorted : mg "sorted" = none
  gl : ∀ (i : Nat) (x : Str), globs[i]? = some x → mg x = some (.ref (He.ga K x))
  letters : ∃ t, mg "LETTERS" = some (.str "abcdefghijklmnopqrstuvwxyz" t)
  signs : ∃ t, mg "SIGNS" = some (.str "abcdefghijklmnopqrstuvwxyz0123456789" t)
  msigns : ∃ t, mg "MOST_SIGNS" = some (.int 8 t)
  mvalue : ∃ t, mg "MOST_VALUE" = some (.int 1000000000000000000000000000000 t)
  mrows : ∃ t, mg "MOST_ROWS" = some (.int 60 t)
  mpairs : ∃ t, mg "MOST_PAIRS" = some (.int 1830 t)
  cF : Cls K (He.ga K "Fault")
  cJ : Cls K (He.ga K "PairJudge")
  cT : Cls K (He.ga K "PairTable")
  cO : Cls K (He.ga K "Forest")
  kF : Mk K (He.ga K "Fault") (He.ma K (He.ga K "Fault") "__init__")
  kJ : Mk K (He.ga K "PairJudge") (He.ma K (He.ga K "PairJudge") "__init__")
  kT : Mk K (He.ga K "PairTable") (He.ma K (He.ga K "PairTable") "__init__")
  kO : Mk K (He.ga K "Forest") (He.ma K (He.ga K "Forest") "__init__")
  Fplace : NoAttr K (He.ga K "Fault") "place"
  Fword : NoAttr K (He.ga K "Fault") "word"
  Jrows : NoAttr K (He.ga K "PairJudge") "rows"
  Jsteps : NoAttr K (He.ga K "PairJudge") "steps"
  Juppers : NoAttr K (He.ga K "PairJudge") "uppers"
  Jranks : NoAttr K (He.ga K "PairJudge") "first_ranks"
  Jvalues : NoAttr K (He.ga K "PairJudge") "first_values"
  Jselves : NoAttr K (He.ga K "PairJudge") "selves"
  Jspots : NoAttr K (He.ga K "PairJudge") "spots"
  Trows : NoAttr K (He.ga K "PairTable") "rows"
  Tby : NoAttr K (He.ga K "PairTable") "by_pair"
  Tlines : NoAttr K (He.ga K "PairTable") "lines"
  Torder : NoAttr K (He.ga K "PairTable") "order"
  Orows : NoAttr K (He.ga K "Forest") "rows"
  Oorder : NoAttr K (He.ga K "Forest") "order"
  Ospots : NoAttr K (He.ga K "Forest") "spots"
  Fa : PySem.W.findIn K (.ref (He.ga K "Fault")) "__class__" = some (some (.builtin "object.__class__"))
  Fn : PySem.W.specialIn K (.builtin "object.__class__") "__get__" = some (some (.builtin "getset_descriptor.__get__"))
  Ft : PySem.W.takesIn K (.builtin "object.__class__") = some true
  Fm : PySem.W.mroIn K (He.ga K "Fault") (.type "object") = some true
  Fi : PySem.W.kitOne K (.ref (He.ga K "Fault")) (.ref (He.ga K "Thing")) = some true
  Fne : NeC K (He.ga K "Fault") (He.ma K (He.ga K "Thing") "__eq__")
  oMost : ∃ u, ClX.CRead K (He.ga K "Forest") (.type "type") ∧ ClX.CVal K (He.ga K "Forest") (.type "type") "MOST" (.int 60) u
  mFname : Meth K (He.ga K "Fault") "class_name" (He.ma K (He.ga K "Fault") "class_name")
  mFfacts : Meth K (He.ga K "Fault") "facts" (He.ma K (He.ga K "Fault") "facts")
  mJupper : Meth K (He.ga K "PairJudge") "first_upper" (He.ma K (He.ga K "PairJudge") "first_upper")
  mJself : Meth K (He.ga K "PairJudge") "is_self_missing" (He.ma K (He.ga K "PairJudge") "is_self_missing")
  mJline : Meth K (He.ga K "PairJudge") "is_line_broken" (He.ma K (He.ga K "PairJudge") "is_line_broken")
  mJgap : Meth K (He.ga K "PairJudge") "is_gap" (He.ma K (He.ga K "PairJudge") "is_gap")
  mJrank : Meth K (He.ga K "PairJudge") "is_rank_other" (He.ma K (He.ga K "PairJudge") "is_rank_other")
  mJvalue : Meth K (He.ga K "PairJudge") "is_value_other" (He.ma K (He.ga K "PairJudge") "is_value_other")
  mJorder : Meth K (He.ga K "PairJudge") "is_order_broken" (He.ma K (He.ga K "PairJudge") "is_order_broken")
  mJfault : Meth K (He.ga K "PairJudge") "fault" (He.ma K (He.ga K "PairJudge") "fault")
  mTforest : Meth K (He.ga K "PairTable") "forest" (He.ma K (He.ga K "Table") "forest")
  mTput : Meth K (He.ga K "PairTable") "put_rows" (He.ma K (He.ga K "PairTable") "put_rows")
  mTnames : Meth K (He.ga K "PairTable") "names" (He.ma K (He.ga K "PairTable") "names")
  mTworth : Meth K (He.ga K "PairTable") "worth" (He.ma K (He.ga K "PairTable") "worth")
  mTline : Meth K (He.ga K "PairTable") "line_to" (He.ma K (He.ga K "PairTable") "line_to")
/-- a def: how it stands, how it binds, its promise -/
structure Df (P : Program) (w : World) (K : PySem.W.Frag) (mg : Str → Option Value) (base : Heap) (k : Nat) (d : He.DefD) (ps : List Str) (sp : Sp) (fd : FuncData) : Prop where
  b : Binds K fd ps []
  kp : PySem.W.keepIn K (.ref (He.fAd K d.at_)) = true
  ok : FnOk P w K mg base CX0 k (He.fAd K d.at_) fd ps sp
abbrev DfX (P : Program) (w : World) (K : PySem.W.Frag) (mg : Str → Option Value) (base : Heap) (k : Nat) (d : He.DefD) (ps : List Str) (sp : Sp) : Prop := ∃ fd, Df P w K mg base k d ps sp fd
section
variable {P : Program} {w : World} {K : PySem.W.Frag} {mg : Str → Option Value} {base : Heap}
theorem df_mk (T : TX K mg) (i : Nat) {d : He.DefD} (hi : fns[i]? = some d) {N ps : List Str} {k : Nat} {sp : Sp} (S : FnScope N ps d.scope)
    (hb : ∀ (kV doc pm : Value) (an : Option Addr) (cdv ct : Value) (us : List Value), us.length = ps.length → bindArgs (PySem.W.fnOf d.name d.qual d.params d.body d.scope .none kV doc pm an cdv ct) ⟨us, []⟩ = pure (ps.zip us))
    (len : ∀ vs H Q E, sp vs H Q E → vs.length = ps.length)
    (hbody : ∀ (cdv : Value) (A : Around) (outer : List Env) (s : Shared) (H : Hp) (vs : List V) (Q : VK) (E : XK), Room k (A.deeper (envOfC d.qual d.scope s.heap.objs.size (He.fAd K d.at_) cdv)) → sp vs H Q E →
      ∃ t, PSs (cxOf CX0 P w K mg base N d.qual d.scope (He.fAd K d.at_) cdv A outer s H E).nox d.body t ∧ t { nx := fun _ H' => Q .non H', rt := Q } (start N vs) H) : DfX P w K mg base (k + 1) d ps sp := by
  obtain ⟨fd, F⟩ := T.fn i d hi
  refine ⟨fd, F.bindsN hb, F.kp, F.ok S len fun cdv A outer s H vs Q E hr h => ?_⟩
  obtain ⟨t, h1, h2⟩ := hbody cdv A outer s H vs Q E hr h
  exact ⟨t, h1.nox, h2⟩
end
section
variable {c A B : Prop} [Decidable c]
theorem iteP (hc : c) (h : A) : if decide c = true then A else B := by
  rw [decide_eq_true hc]
  exact iteT h
theorem iteN (hc : ¬ c) (h : B) : if decide c = true then A else B := by
  rw [decide_eq_false hc]
  exact iteF h
theorem iteC (h1 : c → A) (h2 : ¬ c → B) : if decide c = true then A else B := by
  by_cases h : c
  · exact iteP h (h1 h)
  · exact iteN h (h2 h)
theorem iteNP (hc : ¬ c) (h : A) : if (!decide c) = true then A else B := by
  rw [decide_eq_false hc]
  exact iteT h
theorem iteNN (hc : c) (h : B) : if (!decide c) = true then A else B := by
  rw [decide_eq_true hc]
  exact iteF h
theorem iteNC (h1 : ¬ c → A) (h2 : c → B) : if (!decide c) = true then A else B := by
  by_cases h : c
  · exact iteNN h (h2 h)
  · exact iteNP h (h1 h)
theorem cast_if {A B : Prop} {x b : Bool} (e : x = b) (h : if b = true then A else B) : if x = true then A else B := by
  rw [e]
  exact h
theorem Same.upd {H : Hp} {p : Addr} {o : HO} (h : H p = none) : Same H (upd H p o) := fun a u e => by rw [upd_ne (ne_of_none e h)]; exact e
theorem Same.updS {H H1 : Hp} {p : Addr} {o : HO} (s : Same H H1) (h : H p = none) : Same H (L2.upd H1 p o) := fun a u e => by rw [upd_ne (ne_of_none e h)]; exact s _ _ e
end
section
variable {X : Cx} {kx vx tg iter : Expr} {ifs : List Expr} {scope : Scope} {own : List (Str × Nat)} {pos pos' : Pos} {wi : TI} {g : TG} {tt : TT} {tk tv : TE} {O : HO}
theorem pe_dpx (hO : EmptyD O) (hu : X.A.units + 1 < cLine) (hc : X.calm = true) (hN : X.N.Nodup) (hi : PI X tg iter wi) (ok : BlkOk X.N X.env.scope scope own)
    (hg : ∀ (s : Shared) (H : Hp) (C : Addr) (cl : List (Str × Addr)) (fp : List Addr), PG (X.blk s H scope (compEnvC scope cl C X.env) fp) tg g)
    (ht : ∀ (s : Shared) (H : Hp) (C : Addr) (cl : List (Str × Addr)) (fp : List Addr), PTs (X.blk s H scope (compEnvC scope cl C X.env) fp) ifs tt)
    (hk : ∀ (s : Shared) (H : Hp) (C : Addr) (cl : List (Str × Addr)) (fp : List Addr), PE (X.blk s H scope (compEnvC scope cl C X.env) fp) kx tk)
    (hv : ∀ (s : Shared) (H : Hp) (C : Addr) (cl : List (Str × Addr)) (fp : List Addr), PE (X.blk s H scope (compEnvC scope cl C X.env) fp) vx tv) (hs : ∀ x, foldedSetIterable iter X.env x = pure x := by intro _; rfl) :
    PE X (.DictComp kx vx [⟨tg, iter, ifs, 0⟩] scope pos) (tDp O wi g tt tk tv (own.map (·.2))) := pe_dp hO hu hc hN hi ok ⟨hg, ht, hk, hv⟩ hs
theorem ps_setDpx {i : Nat} {y : Str} {py spos : Pos} (hO : EmptyD O) (hu : X.A.units + 1 < cLine) (hc : X.calm = true) (hN : X.N.Nodup) (hy : X.N[i]? = some y) (hyl : X.env.scope.names.lookup y = some .local)
    (hsw : swapsWith (.DictComp kx vx [⟨tg, iter, ifs, 0⟩] scope pos) (some (.Name y py)) spos.line X.env = pure true) (hi : PI X tg iter wi) (ok : BlkOk X.N X.env.scope scope own)
    (hg : ∀ (s : Shared) (H : Hp) (C : Addr) (cl : List (Str × Addr)) (fp : List Addr), PG (X.blk s H scope (compEnvC scope cl C X.env) fp) tg g)
    (ht : ∀ (s : Shared) (H : Hp) (C : Addr) (cl : List (Str × Addr)) (fp : List Addr), PTs (X.blk s H scope (compEnvC scope cl C X.env) fp) ifs tt)
    (hk : ∀ (s : Shared) (H : Hp) (C : Addr) (cl : List (Str × Addr)) (fp : List Addr), PE (X.blk s H scope (compEnvC scope cl C X.env) fp) kx tk)
    (hv : ∀ (s : Shared) (H : Hp) (C : Addr) (cl : List (Str × Addr)) (fp : List Addr), PE (X.blk s H scope (compEnvC scope cl C X.env) fp) vx tv) (hs : ∀ x, foldedSetIterable iter X.env x = pure x := by intro _; rfl) :
    PS X (.Assign [.Name y py] (.DictComp kx vx [⟨tg, iter, ifs, 0⟩] scope pos) spos) (tAsg (tDp O wi g tt tk tv (own.map (·.2))) (gName i)) := ps_setDp hO hu hc hN hy hyl hsw hi ok ⟨hg, ht, hk, hv⟩ hs
end
/-! the rules whose readings name K, for blocks: K is the def's own -/
section
variable {X : Cx} (K : PySem.W.Frag) (hK : X.K = K)
include hK
theorem ix_tupK : IxR X (rIxT K) := hK ▸ ix_tup
theorem call_tupK : CallR X (.type "tuple") (fun xs H Q => ∃ p ys, xs = [.ref p] ∧ ((SqL K H p ys ∧ ∀ l, H l = none → Q (.ref l) (upd H l (.tup ys))) ∨ (SqT K H p ys ∧ Q (.ref p) H))) := hK ▸ call_tuple_of
theorem ix_listK : IxR X (rIxL K) := hK ▸ ix_list
theorem ix_seqK : IxR X (rIx K) := hK ▸ ix_seq
theorem pe_fldK {e : Expr} {f : Str} {pos : Pos} {ta : TE} (he : PE X e ta) (hb : attributeBase e f X.env (eval e X.env) = eval e X.env) : PE X (.Attribute e f pos) (tFld K ta f) := hK ▸ pe_fld he hb
theorem pg_tupK {pos : Pos} {es : List Expr} {k : Nat} {t : TGs} {n : Nat} (hc : X.calm = true) (h : PGs X es t) (hn : (assignEach es X.env).length = n := by rfl) (hst : (assignEach es X.env).findIdx? (·.1) = none := by rfl) :
    PG X (.Tuple es k pos) (gTup K n t) := hK ▸ pg_tup hc h hn hst
end
section
variable {X : Cx} {x : Str} {p : Pos}
theorem pe_gi {i : Int} (hm : ∃ t, X.mg x = some (.int i t)) (hg : Gl X x := by rfl) (hd : (x == ("__debug__" : Str)) = false := by decide) : PE X (.Name x p) (tC (.int i)) := by
  obtain ⟨t, hm⟩ := hm
  exact pe_glob hg hm ⟨_, rfl⟩ hd
theorem pe_gs {z : Str} (hm : ∃ t, X.mg x = some (.str z t)) (hg : Gl X x := by rfl) (hd : (x == ("__debug__" : Str)) = false := by decide) : PE X (.Name x p) (tC (.str z)) := by
  obtain ⟨t, hm⟩ := hm
  exact pe_glob hg hm ⟨_, rfl⟩ hd
end
end KW
end

section
set_option Elab.async false
set_option linter.all false
set_option maxRecDepth 100000
set_option maxHeartbeats 4000000
/-! things: is_integer, is_sequence, is_name, is_value. -/
namespace KW
open PySem PySem.Spec PyProof.Rows L2 KR
section
variable {P : Program} {w : World} {K : PySem.W.Frag} {mg : Str → Option Value} {base : Heap}
def spInt : Sp := fun vs H Q _ => ∃ i : Int, vs = [.int i] ∧ Q (.bl true) H
theorem ok_int (T : TX K mg) : DfX P w K mg base 1 dIsInteger ["thing"] spInt := by
  refine df_mk T 0 rfl (N := ["thing"]) ⟨rfl, rfl, rfl, by decide +kernel, rfl, by decide +kernel, by decide +kernel⟩ (fun _ _ _ _ _ _ us hl => match us, hl with | [_], _ => rfl) (fun vs H Q E h => ?_) (fun cdv A outer s H vs Q E hr h => ?_)
  · obtain ⟨i, rfl, _⟩ := h
    rfl
  · obtain ⟨i, rfl, k⟩ := h
    refine ⟨_, pss_one (ps_ret (pe_and (pe_callB call_isi (by rfl) T.isi PyProof.Rows.boot_isinstance (pa_cons (pv 0) (pa_cons (pe_bltn (v := .ty "int") (by rfl) T.int boot_int rfl) pa_nil)))
      (pe_one (pe_not (pe_callB call_isi (by rfl) T.isi PyProof.Rows.boot_isinstance (pa_cons (pv 0) (pa_cons (pe_bltn (v := .ty "bool") (by rfl) T.bool (by decide +kernel) rfl) pa_nil))))))), ?_⟩
    refine ⟨_, rfl, _, _, _, _, true, rfl, .ty "int", (.base (.int _)), kit_ty (by decide +kernel), true, rfl, ?_⟩
    refine iteT ?_
    exact ⟨_, rfl, _, _, _, _, false, rfl, .ty "bool", (.base (.int _)), kit_ty (by decide +kernel), false, rfl, k⟩
def SeqA (K : PySem.W.Frag) (H : Hp) (a : Addr) : Prop := ∃ xs, SqL K H a xs ∨ SqT K H a xs
def spSeq (K : PySem.W.Frag) : Sp := fun vs H Q _ => ∃ a, vs = [.ref a] ∧ ((∃ xs, H a = some (.lst xs)) ∨ (∃ xs, H a = some (.tup xs))) ∧ ∀ H', Same H H' → Q (.bl true) H'
theorem ok_seq (T : TX K mg) : DfX P w K mg base 1 dIsSequence ["thing"] (spSeq K) := by
  refine df_mk T 1 rfl (N := ["thing"]) ⟨rfl, rfl, rfl, by decide +kernel, rfl, by decide +kernel, by decide +kernel⟩ (fun _ _ _ _ _ _ us hl => match us, hl with | [_], _ => rfl) (fun vs H Q E h => ?_) (fun cdv A outer s H vs Q E hr h => ?_)
  · obtain ⟨i, rfl, _⟩ := h
    rfl
  · obtain ⟨a, rfl, ha, k⟩ := h
    refine ⟨_, pss_one (ps_ret (pe_callB call_isiT (by rfl) T.isi PyProof.Rows.boot_isinstance (pa_cons (pv 0) (pa_cons (pe_tup (pa_cons (pe_bltn (v := .ty "list") (by rfl) T.list boot_list rfl) (pa_cons (pe_bltn (v := .ty "tuple") (by rfl) T.tuple boot_tuple rfl) pa_nil))) pa_nil)))), ?_⟩
    refine ⟨_, rfl, (by show 2 ≤ sizeLine; decide), fun t ht => ?_⟩
    have s1 : Same H (upd H t (.tup [.ty "list", .ty "tuple"])) := fun b o e => by rw [upd_ne (ne_of_none e ht)]; exact e
    rcases ha with ⟨xs, ha⟩ | ⟨xs, ha⟩
    · exact ⟨_, t, _, _, _, true, rfl, upd_same, .cons (.ty "list") (.cons (.ty "tuple") .nil), .base (.lst (s1 _ _ ha)), kitAny_cons (kit_ty (b := "list") (r := true) (by decide +kernel)) (fun z => nomatch z) (fun _ => rfl), k _ s1⟩
    · exact ⟨_, t, _, _, _, true, rfl, upd_same, .cons (.ty "list") (.cons (.ty "tuple") .nil), .base (.tup (s1 _ _ ha)), kitAny_cons (kit_ty (b := "list") (r := false) (by decide +kernel)) (fun _ => kitAny_cons (kit_ty (b := "tuple") (r := true) (by decide +kernel)) (fun z => nomatch z) (fun _ => rfl)) (fun z => nomatch z), k _ s1⟩
/-- a name -/
structure NameOk (z : Str) : Prop where
  lo : 1 ≤ z.cps.size
  hi : z.cps.size ≤ 8
  hd : ∃ c, z.cps[0]? = some c ∧ c ∈ ("abcdefghijklmnopqrstuvwxyz" : Str).cps.toList
  all : ∀ c ∈ z.cps.toList, c ∈ ("abcdefghijklmnopqrstuvwxyz0123456789" : Str).cps.toList
def spName : Sp := fun vs H Q _ => ∃ z : Str, vs = [.str z] ∧ NameOk z ∧ ∀ H', Same H H' → Q (.bl true) H'
theorem ok_name (T : TX K mg) : DfX P w K mg base 1 dIsName ["thing"] spName := by
  refine df_mk T 2 rfl (N := ["thing", "sign"]) ⟨rfl, rfl, rfl, by decide +kernel, rfl, by decide +kernel, by decide +kernel⟩ (fun _ _ _ _ _ _ us hl => match us, hl with | [_], _ => rfl) (fun vs H Q E h => ?_) (fun cdv A outer s H vs Q E hr h => ?_)
  · obtain ⟨i, rfl, _⟩ := h
    rfl
  · obtain ⟨z, rfl, N, k⟩ := h
    have nd : (["thing", "sign"] : List Str).Nodup := by decide +kernel
    refine ⟨_, pss_cons (ps_if (PW.pt (pw_or (pt_not (pt_val (pe_callB call_isi (by rfl) T.isi PyProof.Rows.boot_isinstance (pa_cons (pv 0) (pa_cons (pe_bltn (v := .ty "str") (by rfl) T.str (by decide +kernel) rfl) pa_nil)))))
        (pw_or1 (pt_not (pt_chain op_le op_le pe_int (pe_callB call_len_str (by rfl) T.len PySem.boot_len (pa_cons (pv 0) pa_nil)) (pe_gi T.msigns)))))) (pss_one (ps_ret pe_bl)) pss_nil)
      (pss_one (ps_ret (pe_and (pe_cmpR op_in_sign (pe_item_str (pv 0) pe_int (fun _ _ => rfl)) (pe_gs T.letters) (by rfl))
        (pe_one (pe_callB (cr_all rfl) (by rfl) T.all (by decide +kernel) (pa_cons (pe_lc (own := [("sign", 1)]) (g := gName 1) (tt := tYes) (by rfl) nd (pi_str (pv 0)) (blkOk_by (own := [("sign", 1)]) (N := ["thing", "sign"]) (sc := dIsName.scope) (by decide +kernel))
          (fun _ _ _ _ _ => pg_name (i := 1) nd rfl (Or.inl rfl)) (fun _ _ _ _ _ => pts_nil) (fun _ _ _ _ _ => pe_cmpR op_in_sign (pv 1) (pe_gs T.signs) (by rfl))) pa_nil)))))), ?_⟩
    have hz : z.cps.size ≤ sizeLine := Nat.le_trans N.hi (by decide)
    obtain ⟨c0, hc0, hm0⟩ := N.hd
    have h1 : z.cps.size = z.length := rfl
    have h2 := N.lo
    have h3 := N.hi
    refine ⟨_, rfl, _, _, _, _, true, rfl, .ty "str", (.base (.str _)), kit_ty (by decide +kernel), true, rfl, ?_⟩
    refine iteF ?_
    refine ⟨_, rfl, _, rfl, hz, _, _, rfl, rfl, _, rfl, ?_⟩
    refine iteP (by show (1 : Int) ≤ (z.cps.size : Int); omega) ?_
    refine ⟨_, _, rfl, rfl, _, rfl, ?_⟩
    rw [decide_eq_true (show ((z.length : Int) ≤ 8) from by show ((z.cps.size : Int) ≤ 8); omega)]
    refine iteF ?_
    refine ⟨_, rfl, _, _, c0, rfl, rfl, by decide, by decide, by show (0 : Int) < (z.cps.size : Int); omega, hc0, c0, _, rfl, rfl, ?_⟩
    rw [decide_eq_true hm0]
    refine ⟨_, rfl, iteT ?_⟩
    refine ⟨_, rfl, z, rfl, fun D hD => ?_⟩
    refine lc_it (walk_str (z := z)) (fun i H' => ∃ bs : List Bool, bs.length = i ∧ (∀ b ∈ bs, b = true) ∧ Same H H' ∧ H' D = some (.lst (bs.map V.bl))) ⟨[], rfl, by simp, Same.upd hD, upd_same⟩ (fun i H _ _ => True.intro) ?_ ?_
    · rintro i x H1 H2 hi ⟨bs, hl, hb, s1, hd⟩ ⟨rfl, c, hc, rfl⟩
      refine ⟨rfl, _, rfl, _, _, rfl, rfl, ?_⟩
      rw [decide_eq_true (N.all c (List.mem_of_getElem? (i := i) (by rw [← hc]; simp)))]
      refine ⟨_, hd, ?_, bs ++ [true], by simp [hl], ?_, Same.updS s1 hD, by rw [upd_same]; simp⟩
      · rw [List.length_map, hl]
        exact Nat.lt_of_lt_of_le hi hz
      · intro b hb2
        rcases List.mem_append.mp hb2 with q | q
        · exact hb b q
        · exact List.mem_singleton.mp q
    · rintro H1 ⟨bs, hl, hb, s1, hd⟩
      refine ⟨D, bs, rfl, SqL.of hd, ?_⟩
      have e : bs.all id = true := List.all_eq_true.mpr fun b hb2 => hb b hb2
      rw [e]
      exact k _ s1
def spValue : Sp := fun vs H Q _ => ∃ i : Int, vs = [.int i] ∧ -(10 ^ 30) ≤ i ∧ i ≤ 10 ^ 30 ∧ Q (.bl true) H
theorem ok_value (T : TX K mg) : DfX P w K mg base 2 dIsValue ["thing"] spValue := by
  obtain ⟨fd1, G1⟩ := ok_int (P := P) (w := w) (base := base) T
  refine df_mk T 3 rfl (N := ["thing"]) ⟨rfl, rfl, rfl, by decide +kernel, rfl, by decide +kernel, by decide +kernel⟩ (fun _ _ _ _ _ _ us hl => match us, hl with | [_], _ => rfl) (fun vs H Q E h => ?_) (fun cdv A outer s H vs Q E hr h => ?_)
  · obtain ⟨i, rfl, _⟩ := h
    rfl
  · obtain ⟨i, rfl, l1, l2, k⟩ := h
    refine ⟨_, pss_one (ps_ret (pe_and (pe_call G1.ok hr rfl (T.gl 6 _ rfl) G1.kp G1.b .nil pass0 (pa_cons (pv 0) pa_nil))
      (pe_one (pe_chain op_le op_le (pe_un un_neg (pe_gi T.mvalue)) (pv 0) (pe_gi T.mvalue))))), ?_⟩
    refine ⟨_, rfl, i, rfl, true, rfl, iteT ?_⟩
    refine ⟨_, rfl, _, rfl, _, _, rfl, rfl, _, rfl, ?_⟩
    refine iteP (by exact l1) ?_
    refine ⟨_, _, rfl, rfl, ?_⟩
    show Q (.bl (decide (i ≤ 1000000000000000000000000000000))) H
    rw [decide_eq_true (show i ≤ 1000000000000000000000000000000 from l2)]
    exact k
end
end KW
end

section
set_option Elab.async false
set_option linter.all false
set_option maxRecDepth 100000
set_option maxHeartbeats 4000000
/-! Fault: made, told, compared. -/
namespace KW
open PySem PySem.Spec PyProof.Rows L2 KR
section
variable {P : Program} {w : World} {K : PySem.W.Frag} {mg : Str → Option Value} {base : Heap}
def fltF (i : Int) (z : Str) : List (Str × V) := [(("place" : Str), V.int i), (("word" : Str), V.str z)]
def FaultAt (K : PySem.W.Frag) (H : Hp) (p : Addr) (i : Int) (z : Str) : Prop := ∃ dx, H p = some (.ins (He.ga K "Fault") dx (fltF i z))
theorem FaultAt.same {H H' : Hp} {p : Addr} {i : Int} {z : Str} (h : FaultAt K H p i z) (s : Same H H') : FaultAt K H' p i z := let ⟨dx, e⟩ := h; ⟨dx, s _ _ e⟩
def spFInit (K : PySem.W.Frag) : Sp := fun vs H Q _ => ∃ (p dx : Addr) (i : Int) (z : Str), vs = [.ref p, .int i, .str z] ∧ H p = some (.ins (He.ga K "Fault") dx []) ∧
  ∀ H', FaultAt K H' p i z → (∀ b o, H b = some o → b ≠ p → H' b = some o) → Q .non H'
theorem ok_finit (T : TX K mg) : DfX P w K mg base 1 dFInit ["self", "place", "word"] (spFInit K) := by
  refine df_mk T 25 rfl (N := ["self", "place", "word"]) ⟨rfl, rfl, rfl, by decide +kernel, rfl, by decide +kernel, by decide +kernel⟩ (fun _ _ _ _ _ _ us hl => match us, hl with | [_, _, _], _ => rfl) (fun vs H Q E h => ?_) (fun cdv A outer s H vs Q E hr h => ?_)
  · obtain ⟨p, dx, i, z, rfl, _⟩ := h
    rfl
  · obtain ⟨p, dx, i, z, rfl, hp, k⟩ := h
    refine ⟨_, pss_cons (ps_fld (pv 0) (pv 1) rfl) (pss_one (ps_fld (pv 0) (pv 2) rfl)), ?_⟩
    refine ⟨_, rfl, _, rfl, p, _, dx, _, rfl, hp, T.cF, T.Fplace, (by show 0 < 1000; decide), _, rfl, _, rfl, p, _, dx, _, rfl, upd_same, T.cF, T.Fword, (by show 1 < 1000; decide), ?_⟩
    refine k _ ⟨dx, upd_same⟩ fun b o e hb => ?_
    rw [upd_ne hb, upd_ne hb]
    exact e
def spFName (K : PySem.W.Frag) : Sp := fun vs H Q _ => ∃ (p : Addr) (i : Int) (z : Str), vs = [.ref p] ∧ FaultAt K H p i z ∧ Q (.str "fault") H
theorem ok_fname (T : TX K mg) : DfX P w K mg base 1 dFName ["self"] (spFName K) := by
  refine df_mk T 26 rfl (N := ["self"]) ⟨rfl, rfl, rfl, by decide +kernel, rfl, by decide +kernel, by decide +kernel⟩ (fun _ _ _ _ _ _ us hl => match us, hl with | [_], _ => rfl) (fun vs H Q E h => ?_) (fun cdv A outer s H vs Q E hr h => ?_)
  · obtain ⟨p, i, z, rfl, _⟩ := h
    rfl
  · obtain ⟨p, i, z, rfl, hp, k⟩ := h
    exact ⟨_, pss_one (ps_ret pe_str), k⟩
def spFFacts (K : PySem.W.Frag) : Sp := fun vs H Q _ => ∃ (p : Addr) (i : Int) (z : Str), vs = [.ref p] ∧ FaultAt K H p i z ∧ ∀ t, H t = none → Q (.ref t) (upd H t (.tup [.int i, .str z]))
theorem ok_ffacts (T : TX K mg) : DfX P w K mg base 1 dFFacts ["self"] (spFFacts K) := by
  refine df_mk T 27 rfl (N := ["self"]) ⟨rfl, rfl, rfl, by decide +kernel, rfl, by decide +kernel, by decide +kernel⟩ (fun _ _ _ _ _ _ us hl => match us, hl with | [_], _ => rfl) (fun vs H Q E h => ?_) (fun cdv A outer s H vs Q E hr h => ?_)
  · obtain ⟨p, i, z, rfl, _⟩ := h
    rfl
  · obtain ⟨p, i, z, rfl, ⟨dx, hp⟩, k⟩ := h
    refine ⟨_, pss_one (ps_ret (pe_tup (pa_cons (pe_fld (pv 0) rfl) (pa_cons (pe_fld (pv 0) rfl) pa_nil)))), ?_⟩
    exact ⟨_, rfl, p, _, dx, _, _, rfl, hp, T.cF, T.Fplace, rfl, _, rfl, p, _, dx, _, _, rfl, hp, T.cF, T.Fword, rfl, (by show 2 ≤ sizeLine; decide), fun t ht => k t ht⟩
theorem sh2 (i : Int) (z : Str) (hz : PyData.strOk z = true) : SeqAt.shaped (.tuple [.int i, .str z]) = true := by
  simp [SeqAt.shaped, PyData.canLay0, PyData.canLayAll0, PyData.depth, PyData.depthAll, hz]
/-- two faults that tell the same -/
def FEq (K : PySem.W.Frag) : Addr → Addr → Hp → Prop := fun a b H => ∃ i z, PyData.strOk z = true ∧ FaultAt K H a i z ∧ FaultAt K H b i z
theorem ok_eq (T : TX K mg) : DfX P w K mg base 2 dEq ["self", "other"] (spEq (FEq K)) := by
  obtain ⟨fdN, GN⟩ := ok_fname (P := P) (w := w) (base := base) T
  obtain ⟨fdF, GF⟩ := ok_ffacts (P := P) (w := w) (base := base) T
  refine df_mk T 24 rfl (N := ["self", "other"]) ⟨rfl, rfl, rfl, by decide +kernel, rfl, by decide +kernel, by decide +kernel⟩ (fun _ _ _ _ _ _ us hl => match us, hl with | [_, _], _ => rfl) (fun vs H Q E h => ?_) (fun cdv A outer s H vs Q E hr h => ?_)
  · obtain ⟨p, i, rfl, _⟩ := h
    rfl
  · obtain ⟨a, b, rfl, ⟨i, z, hz, ha, hb⟩, k⟩ := h
    refine ⟨_, pss_cons (ps_if (PW.pt (pw_or (pt_not (pt_val (pe_callB call_isi (by rfl) T.isi PyProof.Rows.boot_isinstance (pa_cons (pv 1) (pa_cons (pe_glob rfl (T.gl 0 _ rfl) (v := .ref (He.ga K "Thing")) rfl) pa_nil)))))
        (pw_or1 (pt_cmpR op_ne (pe_meth0 (pv 0) T.cF T.mFname GN.ok hr GN.b .nil pass0) (pe_meth0 (pv 1) T.cF T.mFname GN.ok hr GN.b .nil pass0) (nomark _))))) (pss_one (ps_ret pe_bl)) pss_nil)
      (pss_one (ps_ret (pe_cmpR (op_eqD hr.units) (pe_meth0 (pv 0) T.cF T.mFfacts GF.ok hr GF.b .nil pass0) (pe_meth0 (pv 1) T.cF T.mFfacts GF.ok hr GF.b .nil pass0) (nomark _)))), ?_⟩
    obtain ⟨dx, ea⟩ := id ha
    obtain ⟨dy, eb⟩ := id hb
    refine ⟨_, rfl, _, _, _, _, true, rfl, .own _, .base (.ins eb T.cF T.Fa T.Fn T.Ft T.Fm), T.Fi, true, rfl, ?_⟩
    refine iteF ?_
    refine ⟨_, rfl, a, dx, _, rfl, ea, rfl, a, i, z, rfl, ha, _, rfl, b, dy, _, rfl, eb, rfl, b, i, z, rfl, hb, rfl, _, rfl, ?_⟩
    refine iteNN rfl ?_
    refine ⟨_, rfl, a, dx, _, rfl, ea, rfl, a, i, z, rfl, ha, fun t ht => ?_⟩
    have s1 : Same H (upd H t (.tup [.int i, .str z])) := Same.upd ht
    refine ⟨_, rfl, b, dy, _, rfl, s1 _ _ eb, rfl, b, i, z, rfl, hb.same s1, fun u hu => ?_⟩
    have s2 : Same (upd H t (.tup [.int i, .str z])) (upd (upd H t (.tup [.int i, .str z])) u (.tup [.int i, .str z])) := Same.upd hu
    refine ⟨.tuple [.int i, .str z], .tuple [.int i, .str z], .tup (.inl (.inl (s2 _ _ upd_same))) (.cons (.int _) (.cons (.str _) .nil)), .tup (.inl (.inl upd_same)) (.cons (.int _) (.cons (.str _) .nil)), sh2 i z hz, sh2 i z hz, ?_⟩
    rw [SeqAt.eqv_refl _ (SeqAt.canLay_of_shaped (sh2 i z hz))]
    exact k _ (s1.trans s2)
end
end KW
end

section
set_option Elab.async false
set_option linter.all false
set_option maxRecDepth 100000
set_option maxHeartbeats 4000000
/-! PairJudge.__init__: the judge's tables. -/
namespace KW
open PySem PySem.Spec PyProof.Rows L2 KR
open FR (Ok Rows stepOf rankOf valueOf spot ups)
abbrev Rw := FR.Row Str
def cells (r : Rw) : List V := [.str r.a, .str r.b, .int r.s, .int r.k, .int r.v]
abbrev RL := List (Addr × Rw)
def refs (L : RL) : List V := L.map fun q => .ref q.1
def rws (L : RL) : Rows Str := L.map (·.2)
/-- each row a tuple -/
def Tups (H : Hp) (L : RL) : Prop := ∀ q ∈ L, H q.1 = some (.tup (cells q.2))
theorem refs_len (L : RL) : (refs L).length = L.length := List.length_map _
theorem rws_len (L : RL) : (rws L).length = L.length := List.length_map _
theorem refs_at {L : RL} {i : Nat} {x : V} (h : (refs L)[i]? = some x) : ∃ q, L[i]? = some q ∧ x = .ref q.1 ∧ q ∈ L ∧ (rws L)[i]? = some q.2 := by
  unfold refs at h
  rw [List.getElem?_map] at h
  cases e : L[i]? with
  | none => rw [e] at h; cases h
  | some q =>
    rw [e] at h
    exact ⟨q, rfl, (Option.some.inj h).symm, List.mem_of_getElem? e, by unfold rws; rw [List.getElem?_map, e]; rfl⟩
theorem refs_of {L : RL} {i : Nat} {q : Addr × Rw} (h : L[i]? = some q) : (refs L)[i]? = some (.ref q.1) := by
  unfold refs
  rw [List.getElem?_map, h]
  rfl
theorem Tups.same {H H' : Hp} {L : RL} (h : Tups H L) (s : Same H H') : Tups H' L := fun q hq => s _ _ (h q hq)
/-! ### what stands as it stood, but for one object -/
def But (p : Addr) (H H' : Hp) : Prop := ∀ b o, H b = some o → b ≠ p → H' b = some o
theorem But.refl (p : Addr) (H : Hp) : But p H H := fun _ _ e _ => e
theorem But.of {p : Addr} {H H' : Hp} (s : Same H H') : But p H H' := fun b o e _ => s b o e
theorem But.trans {p : Addr} {H H1 H2 : Hp} (a : But p H H1) (b : But p H1 H2) : But p H H2 := fun c o e h => b c o (a c o e h) h
theorem But.put {p : Addr} {H H1 : Hp} (a : But p H H1) {o : HO} : But p H (upd H1 p o) := fun c u e h => by rw [upd_ne h]; exact a c u e h
theorem But.new {p : Addr} {H H1 : Hp} (a : But p H H1) {d : Addr} {o : HO} (hd : H1 d = none) : But p H (upd H1 d o) := fun c u e h => by rw [upd_ne (ne_of_none (a c u e h) hd)]; exact a c u e h
/-- a new object is written -/
theorem But.own {p : Addr} {H H1 : Hp} (a : But p H H1) {d : Addr} {o : HO} (hd : H d = none) : But p H (upd H1 d o) := fun c u e h => by rw [upd_ne (ne_of_none e hd)]; exact a c u e h
theorem But.freeB {p : Addr} {H H1 : Hp} (a : But p H H1) {d : Addr} (hd : H1 d = none) (hp : d ≠ p) : H d = none := by
  cases e : H d with
  | none => rfl
  | some o =>
    have := a d o e hp
    rw [hd] at this
    cases this
theorem small1830 {n : Nat} (h : n ≤ 3660) : n < sizeLine := Nat.lt_of_le_of_lt h (by decide)
theorem Tups.but {p : Addr} {H H' : Hp} {L : RL} (h : Tups H L) (s : But p H H') (hp : ∀ q ∈ L, q.1 ≠ p) : Tups H' L := fun q hq => s _ _ (h q hq) (hp q hq)
/-! ### the tables -/
def StepsAt (H : Hp) (d : Addr) (rs : Rows Str) : Prop := ∃ kvs : List (List Key × V), H d = some (.dT kvs) ∧ kvs.length ≤ rs.length ∧ ∀ a b : Str, valV kvs [Sum.inr a, Sum.inr b] = (stepOf rs a b).map V.int
def RanksAt (H : Hp) (d : Addr) (rs : Rows Str) : Prop := ∃ kvs : List (Key × V), H d = some (.dK kvs) ∧ kvs.length ≤ rs.length ∧ ∀ n : Str, valV kvs (Sum.inr n) = (rankOf rs n).map V.int
def ValsAt (H : Hp) (d : Addr) (rs : Rows Str) : Prop := ∃ kvs : List (Key × V), H d = some (.dK kvs) ∧ kvs.length ≤ rs.length ∧ ∀ n : Str, valV kvs (Sum.inr n) = (valueOf rs n).map V.int
def SpotsAt (H : Hp) (d : Addr) (rs : Rows Str) : Prop := ∃ kvs : List (Key × V), H d = some (.dK kvs) ∧ kvs.length ≤ rs.length ∧ ∀ n : Str, valV kvs (Sum.inr n) = (spot rs n).map fun i => V.int (i : Nat)
/-- H0: what was there ahead; the lists of upper names are new, each name's its own -/
structure UpsOf (H0 H : Hp) (kvs : List (Key × V)) (rs : Rows Str) : Prop where
  none : ∀ n : Str, ups rs n = [] → valV kvs (Sum.inr n) = none
  some : ∀ n : Str, ups rs n ≠ [] → ∃ a : Addr, valV kvs (Sum.inr n) = some (.ref a) ∧ H0 a = Option.none ∧ H a = Option.some (.lst ((ups rs n).map V.str))
  inj : ∀ (n m : Str) (a : Addr), valV kvs (Sum.inr n) = Option.some (.ref a) → valV kvs (Sum.inr m) = Option.some (.ref a) → n = m
def UpsAt (H0 H : Hp) (d : Addr) (rs : Rows Str) : Prop := ∃ kvs : List (Key × V), H d = some (.dK kvs) ∧ kvs.length ≤ rs.length ∧ UpsOf H0 H kvs rs
def selves (L : RL) : RL := L.filter fun q => decide (q.2.s = 0)
def jF (a dS dU dR dV aS dP : Addr) : List (Str × V) := [(("rows" : Str), V.ref a), (("steps" : Str), V.ref dS), (("uppers" : Str), V.ref dU), (("first_ranks" : Str), V.ref dR), (("first_values" : Str), V.ref dV), (("selves" : Str), V.ref aS), (("spots" : Str), V.ref dP)]
structure JudgeAt (K : PySem.W.Frag) (H : Hp) (p : Addr) (L : RL) : Prop where
  ex : ∃ (dx a dS dU dR dV aS dP : Addr), H p = some (.ins (He.ga K "PairJudge") dx (jF a dS dU dR dV aS dP)) ∧ H a = some (.lst (refs L)) ∧ Tups H L ∧ StepsAt H dS (rws L) ∧ (∃ H0, UpsAt H0 H dU (rws L)) ∧ RanksAt H dR (rws L) ∧ ValsAt H dV (rws L) ∧
    H aS = some (.lst (refs (selves L))) ∧ SpotsAt H dP (rws L)
theorem JudgeAt.same {K : PySem.W.Frag} {H H' : Hp} {p : Addr} {L : RL} (h : JudgeAt K H p L) (s : Same H H') : JudgeAt K H' p L := by
  obtain ⟨dx, a, dS, dU, dR, dV, aS, dP, h1, h2, h3, ⟨k4, e4, l4, f4⟩, ⟨H0, k5, e5, l5, f5⟩, ⟨k6, e6, l6, f6⟩, ⟨k7, e7, l7, f7⟩, h8, ⟨k9, e9, l9, f9⟩⟩ := h
  exact ⟨dx, a, dS, dU, dR, dV, aS, dP, s _ _ h1, s _ _ h2, h3.same s, ⟨k4, s _ _ e4, l4, f4⟩, ⟨H0, k5, s _ _ e5, l5, f5.none, fun n hn => let ⟨a, x, y, z⟩ := f5.some n hn; ⟨a, x, y, s _ _ z⟩, f5.inj⟩, ⟨k6, s _ _ e6, l6, f6⟩, ⟨k7, s _ _ e7, l7, f7⟩, s _ _ h8, ⟨k9, s _ _ e9, l9, f9⟩⟩
end KW
end

section
set_option Elab.async false
set_option linter.all false
set_option maxRecDepth 100000
set_option maxHeartbeats 4000000
/-! PairJudge.__init__: one turn of its loop over the tables. -/
namespace KW
open PySem PySem.Spec PyProof.Rows L2 KR
open FR (Ok Rows stepOf rankOf valueOf spot ups)
theorem rank_set {H : Hp} {d : Addr} {l : Rows Str} {r : Rw} {Q : VK} (hd : RanksAt H d l) (hl : l.length < 1830) (h : ∀ v H', But d H H' → RanksAt H' d (l ++ [r]) → Q v H') :
    ∃ (kvs : List (Key × V)) (k : Key), H d = some (.dK kvs) ∧ V.str r.a = kV k ∧ kvs.length < sizeLine ∧ (∀ v, valV kvs k = some v → Q v H) ∧ (valV kvs k = none → Q (.int r.k) (upd H d (.dK (putK kvs k (.int r.k))))) := by
  obtain ⟨kvs, e, hk, f⟩ := hd
  refine ⟨kvs, Sum.inr r.a, e, rfl, small1830 (by omega), fun v hv => ?_, fun hn => ?_⟩
  · refine h v H (But.refl _ _) ⟨kvs, e, by rw [List.length_append]; exact Nat.le_trans hk (Nat.le_add_right _ _), fun n => ?_⟩
    rw [f, FR.rankOf_snoc]
    by_cases z : r.a = n
    · rw [f, z] at hv
      cases e2 : rankOf l n with
      | none => rw [e2] at hv; cases hv
      | some y => rfl
    · rw [if_neg z]
      cases rankOf l n <;> rfl
  · refine h _ _ (But.refl _ _).put ⟨_, upd_same, by rw [List.length_append]; exact Nat.le_trans (length_putK _ _ _) (Nat.add_le_add_right hk 1), fun n => ?_⟩
    rw [valV_put, f, FR.rankOf_snoc]
    by_cases z : r.a = n
    · rw [f, z] at hn
      rw [if_pos (by rw [z]), if_pos z]
      cases e2 : rankOf l n with
      | none => rfl
      | some y => rw [e2] at hn; cases hn
    · rw [if_neg (fun q => z (Sum.inr.inj q).symm), if_neg z]
      cases rankOf l n <;> rfl
theorem val_set {H : Hp} {d : Addr} {l : Rows Str} {r : Rw} {Q : VK} (hd : ValsAt H d l) (hl : l.length < 1830) (h : ∀ v H', But d H H' → ValsAt H' d (l ++ [r]) → Q v H') :
    ∃ (kvs : List (Key × V)) (k : Key), H d = some (.dK kvs) ∧ V.str r.b = kV k ∧ kvs.length < sizeLine ∧ (∀ v, valV kvs k = some v → Q v H) ∧ (valV kvs k = none → Q (.int r.v) (upd H d (.dK (putK kvs k (.int r.v))))) := by
  obtain ⟨kvs, e, hk, f⟩ := hd
  refine ⟨kvs, Sum.inr r.b, e, rfl, small1830 (by omega), fun v hv => ?_, fun hn => ?_⟩
  · refine h v H (But.refl _ _) ⟨kvs, e, by rw [List.length_append]; exact Nat.le_trans hk (Nat.le_add_right _ _), fun n => ?_⟩
    rw [f, FR.valueOf_snoc]
    by_cases z : r.b = n
    · rw [f, z] at hv
      cases e2 : valueOf l n with
      | none => rw [e2] at hv; cases hv
      | some y => rfl
    · rw [if_neg z]
      cases valueOf l n <;> rfl
  · refine h _ _ (But.refl _ _).put ⟨_, upd_same, by rw [List.length_append]; exact Nat.le_trans (length_putK _ _ _) (Nat.add_le_add_right hk 1), fun n => ?_⟩
    rw [valV_put, f, FR.valueOf_snoc]
    by_cases z : r.b = n
    · rw [f, z] at hn
      rw [if_pos (by rw [z]), if_pos z]
      cases e2 : valueOf l n with
      | none => rfl
      | some y => rw [e2] at hn; cases hn
    · rw [if_neg (fun q => z (Sum.inr.inj q).symm), if_neg z]
      cases valueOf l n <;> rfl
/-- setdefault(below, []) with the new list at z, then append: what stands behind it -/
theorem ups_set {H0 H : Hp} {d z : Addr} {l : Rows Str} {r : Rw} {Q : VK} (hd : UpsAt H0 H d l) (hl : l.length < 1830) (hs : r.s = 1) (h0 : H0 z = none) (hz : H z = some (.lst [])) (hnew : ∀ (kvs : List (Key × V)) (n : Str) (a : Addr), H d = some (.dK kvs) → valV kvs (Sum.inr n) = some (.ref a) → a ≠ z)
    (h : ∀ (a : Addr) (H' : Hp), But d H H' → H0 a = none → a ≠ d → H' a = some (.lst ((ups l r.b).map V.str)) → (∀ H'', But a H' H'' → H'' a = some (.lst ((ups l r.b).map V.str ++ [V.str r.a])) → UpsAt H0 H'' d (l ++ [r])) → Q (.ref a) H') :
    ∃ (kvs : List (Key × V)) (k : Key), H d = some (.dK kvs) ∧ V.str r.b = kV k ∧ kvs.length < sizeLine ∧ (∀ v, valV kvs k = some v → Q v H) ∧ (valV kvs k = none → Q (.ref z) (upd H d (.dK (putK kvs k (.ref z))))) := by
  obtain ⟨kvs, e, hk, f⟩ := hd
  have hk1 : kvs.length + 1 ≤ (l ++ [r]).length := by rw [List.length_append]; exact Nat.add_le_add_right hk 1
  have hup : ∀ n, ups (l ++ [r]) n = ups l n ++ if r.b = n then [r.a] else [] := fun n => by
    rw [FR.ups_snoc]
    by_cases q : r.b = n
    · rw [if_pos ⟨q, hs⟩, if_pos q]
    · rw [if_neg (fun y => q y.1), if_neg q]
  refine ⟨kvs, Sum.inr r.b, e, rfl, small1830 (by omega), fun v hv => ?_, fun hn => ?_⟩
  · -- the name has its list
    have hne : ups l r.b ≠ [] := fun q => by rw [f.none _ q] at hv; cases hv
    obtain ⟨a, ea, na, xa⟩ := f.some _ hne
    rw [ea] at hv
    cases hv
    have had : a ≠ d := ne_of xa e (by intro y; cases y)
    refine h a H (But.refl _ _) na had xa fun H'' b2 x2 => ⟨kvs, b2 _ _ e had.symm, by omega, ?_, ?_, f.inj⟩
    · intro n hn2
      rw [hup] at hn2
      exact f.none n (List.append_eq_nil_iff.mp hn2).1
    · intro n hn2
      by_cases q : r.b = n
      · subst q
        exact ⟨a, ea, na, by rw [x2, hup, if_pos rfl, List.map_append]; rfl⟩
      · have e2 : ups (l ++ [r]) n = ups l n := by rw [hup, if_neg q, List.append_nil]
        rw [e2] at hn2 ⊢
        obtain ⟨c, ec, nc, xc⟩ := f.some n hn2
        refine ⟨c, ec, nc, b2 _ _ xc fun y => q (f.inj _ _ a ea (by rw [ec, y]))⟩
  · -- a new list
    have hnil : ups l r.b = [] := by
      cases q : ups l r.b with
      | nil => rfl
      | cons x t =>
        obtain ⟨a, ea, _⟩ := f.some r.b (by rw [q]; exact List.cons_ne_nil _ _)
        rw [hn] at ea
        cases ea
    have hzd : z ≠ d := ne_of hz e (by intro y; cases y)
    refine h z _ (But.refl _ _).put h0 hzd (by rw [upd_ne hzd, hz, hnil]; rfl) fun H'' b2 x2 => ⟨_, b2 _ _ upd_same hzd.symm, Nat.le_trans (length_putK _ _ _) hk1, ?_, ?_, ?_⟩
    · intro n hn2
      rw [hup] at hn2
      obtain ⟨y1, y2⟩ := List.append_eq_nil_iff.mp hn2
      have q : ¬ r.b = n := fun q => by rw [if_pos q] at y2; cases y2
      rw [valV_put, if_neg fun y => q (Sum.inr.inj y).symm]
      exact f.none n y1
    · intro n hn2
      by_cases q : r.b = n
      · subst q
        exact ⟨z, by rw [valV_put, if_pos rfl], h0, by rw [x2, hup, if_pos rfl, List.map_append]; rfl⟩
      · have e2 : ups (l ++ [r]) n = ups l n := by rw [hup, if_neg q, List.append_nil]
        rw [e2] at hn2 ⊢
        obtain ⟨c, ec, nc, xc⟩ := f.some n hn2
        have hcd : c ≠ d := ne_of xc e (by intro y; cases y)
        refine ⟨c, by rw [valV_put, if_neg fun y => q (Sum.inr.inj y).symm]; exact ec, nc, b2 _ _ (by rw [upd_ne hcd]; exact xc) (hnew kvs n c e ec)⟩
    · intro n m a y1 y2
      rw [valV_put] at y1 y2
      by_cases q1 : (Sum.inr n : Key) = Sum.inr r.b
      · by_cases q2 : (Sum.inr m : Key) = Sum.inr r.b
        · exact Sum.inr.inj (q1.trans q2.symm)
        · rw [if_pos q1] at y1
          rw [if_neg q2] at y2
          cases y1
          exact absurd rfl (hnew kvs m _ e y2)
      · by_cases q2 : (Sum.inr m : Key) = Sum.inr r.b
        · rw [if_neg q1] at y1
          rw [if_pos q2] at y2
          cases y2
          exact absurd rfl (hnew kvs n _ e y1)
        · rw [if_neg q1] at y1
          rw [if_neg q2] at y2
          exact f.inj n m a y1 y2
theorem ups_skip {H0 H : Hp} {d : Addr} {l : Rows Str} {r : Rw} (hd : UpsAt H0 H d l) (hs : r.s ≠ 1) : UpsAt H0 H d (l ++ [r]) := by
  obtain ⟨kvs, e, hk, f⟩ := hd
  have e2 : ∀ n, ups (l ++ [r]) n = ups l n := fun n => by rw [FR.ups_snoc, if_neg (fun y => hs y.2), List.append_nil]
  exact ⟨kvs, e, by rw [List.length_append]; exact Nat.le_trans hk (Nat.le_add_right _ _), fun n h => f.none n (by rw [← e2]; exact h), fun n h => by rw [e2] at h ⊢; exact f.some n h, f.inj⟩
def jF5 (a dS dU dR dV : Addr) : List (Str × V) := [(("rows" : Str), V.ref a), (("steps" : Str), V.ref dS), (("uppers" : Str), V.ref dU), (("first_ranks" : Str), V.ref dR), (("first_values" : Str), V.ref dV)]
/-- the loop's state: lr, lv, lu what the three tables have seen -/
structure JL (K : PySem.W.Frag) (H0 H : Hp) (p dx a D dU dR dV : Addr) (rs lr lv lu : Rows Str) : Prop where
  bt : But p H0 H
  ins : H p = some (.ins (He.ga K "PairJudge") dx (jF5 a D dU dR dV))
  old : ∃ o, H0 p = some o
  st : StepsAt H D rs
  ra : RanksAt H dR lr
  va : ValsAt H dV lv
  up : UpsAt H0 H dU lu
  nUR : dU ≠ dR
  nUV : dU ≠ dV
  nRV : dR ≠ dV
  oU : H0 dU = none
  oR : H0 dR = none
  oV : H0 dV = none
theorem JL.setR {K : PySem.W.Frag} {H0 H H' : Hp} {p dx a D dU dR dV : Addr} {rs lr lv lu lr' : Rows Str} (j : JL K H0 H p dx a D dU dR dV rs lr lv lu) (b : But dR H H') (r : RanksAt H' dR lr') : JL K H0 H' p dx a D dU dR dV rs lr' lv lu := by
  obtain ⟨kr, er, _⟩ := j.ra
  refine ⟨fun c o e hc => b _ _ (j.bt c o e hc) (ne_of_none e j.oR), b _ _ j.ins (ne_of j.ins er (by intro y; cases y)), j.old, ?_, r, ?_, ?_, j.nUR, j.nUV, j.nRV, j.oU, j.oR, j.oV⟩
  · obtain ⟨k, e, h⟩ := j.st
    exact ⟨k, b _ _ e (ne_of e er (by intro y; cases y)), h⟩
  · obtain ⟨k, e, h⟩ := j.va
    exact ⟨k, b _ _ e j.nRV.symm, h⟩
  · obtain ⟨k, e, h, f⟩ := j.up
    exact ⟨k, b _ _ e j.nUR, h, f.none, fun n hn => let ⟨c, x, y, z⟩ := f.some n hn; ⟨c, x, y, b _ _ z (ne_of z er (by intro y; cases y))⟩, f.inj⟩
theorem JL.setV {K : PySem.W.Frag} {H0 H H' : Hp} {p dx a D dU dR dV : Addr} {rs lr lv lu lv' : Rows Str} (j : JL K H0 H p dx a D dU dR dV rs lr lv lu) (b : But dV H H') (r : ValsAt H' dV lv') : JL K H0 H' p dx a D dU dR dV rs lr lv' lu := by
  obtain ⟨kr, er, _⟩ := j.va
  refine ⟨fun c o e hc => b _ _ (j.bt c o e hc) (ne_of_none e j.oV), b _ _ j.ins (ne_of j.ins er (by intro y; cases y)), j.old, ?_, ?_, r, ?_, j.nUR, j.nUV, j.nRV, j.oU, j.oR, j.oV⟩
  · obtain ⟨k, e, h⟩ := j.st
    exact ⟨k, b _ _ e (ne_of e er (by intro y; cases y)), h⟩
  · obtain ⟨k, e, h⟩ := j.ra
    exact ⟨k, b _ _ e j.nRV, h⟩
  · obtain ⟨k, e, h, f⟩ := j.up
    exact ⟨k, b _ _ e j.nUV, h, f.none, fun n hn => let ⟨c, x, y, z⟩ := f.some n hn; ⟨c, x, y, b _ _ z (ne_of z er (by intro y; cases y))⟩, f.inj⟩
theorem JL.setU {K : PySem.W.Frag} {H0 H H' : Hp} {p dx a D dU dR dV : Addr} {rs lr lv lu lu' : Rows Str} (j : JL K H0 H p dx a D dU dR dV rs lr lv lu) (b : ∀ c o, H c = some o → c ≠ dU → (H0 c = none → ∀ xs, o ≠ .lst xs) → H' c = some o) (r : UpsAt H0 H' dU lu') :
    JL K H0 H' p dx a D dU dR dV rs lr lv lu' := by
  obtain ⟨kr, er, _⟩ := j.up
  refine ⟨fun c o e hc => b _ _ (j.bt c o e hc) (ne_of_none e j.oU) (fun z => by rw [e] at z; cases z), b _ _ j.ins (ne_of j.ins er (by intro y; cases y)) (fun _ _ y => by cases y), j.old, ?_, ?_, ?_, r, j.nUR, j.nUV, j.nRV, j.oU, j.oR, j.oV⟩
  · obtain ⟨k, e, h⟩ := j.st
    exact ⟨k, b _ _ e (ne_of e er (by intro y; cases y)) (fun _ _ y => by cases y), h⟩
  · obtain ⟨k, e, h⟩ := j.ra
    exact ⟨k, b _ _ e j.nUR.symm (fun _ _ y => by cases y), h⟩
  · obtain ⟨k, e, h⟩ := j.va
    exact ⟨k, b _ _ e j.nUV.symm (fun _ _ y => by cases y), h⟩
/-- an object more -/
theorem JL.more {K : PySem.W.Frag} {H0 H H' : Hp} {p dx a D dU dR dV : Addr} {rs lr lv lu : Rows Str} (j : JL K H0 H p dx a D dU dR dV rs lr lv lu) (s : Same H H') : JL K H0 H' p dx a D dU dR dV rs lr lv lu := by
  refine ⟨fun c o e hc => s _ _ (j.bt c o e hc), s _ _ j.ins, j.old, ?_, ?_, ?_, ?_, j.nUR, j.nUV, j.nRV, j.oU, j.oR, j.oV⟩
  · obtain ⟨k, e, h⟩ := j.st
    exact ⟨k, s _ _ e, h⟩
  · obtain ⟨k, e, h⟩ := j.ra
    exact ⟨k, s _ _ e, h⟩
  · obtain ⟨k, e, h⟩ := j.va
    exact ⟨k, s _ _ e, h⟩
  · obtain ⟨k, e, h, f⟩ := j.up
    exact ⟨k, s _ _ e, h, f.none, fun n hn => let ⟨c, x, y, z⟩ := f.some n hn; ⟨c, x, y, s _ _ z⟩, f.inj⟩
end KW
end

section
set_option Elab.async false
set_option linter.all false
set_option maxRecDepth 100000
set_option maxHeartbeats 4000000
namespace KW
open PySem PySem.Spec PyProof.Rows L2 KR
open FR (Ok Rows stepOf rankOf valueOf spot ups)
section
variable {P : Program} {w : World} {K : PySem.W.Frag} {mg : Str → Option Value} {base : Heap}
abbrev NJ : List Str := ["self", "rows", "above", "below", "steps", "rank", "value", "row", "place"]
theorem ndJ : NJ.Nodup := by decide +kernel
def spJInit (K : PySem.W.Frag) : Sp := fun vs H Q _ => ∃ (p dx a : Addr) (L : RL), vs = [.ref p, .ref a] ∧ H p = some (.ins (He.ga K "PairJudge") dx []) ∧ H a = some (.lst (refs L)) ∧ Tups H L ∧ L.length ≤ 1830 ∧ Ok (rws L) ∧
  ∀ H', JudgeAt K H' p L → But p H H' → Q .non H'
theorem ok_jinit (T : TX K mg) : DfX P w K mg base 1 dJInit ["self", "rows"] (spJInit K) := by
  refine df_mk T 28 rfl (N := NJ) ⟨rfl, rfl, rfl, by decide +kernel, rfl, by decide +kernel, by decide +kernel⟩ (fun _ _ _ _ _ _ us hl => match us, hl with | [_, _], _ => rfl) (fun vs H Q E h => ?_) (fun cdv A outer s H vs Q E hr h => ?_)
  · obtain ⟨p, dx, a, L, rfl, _⟩ := h
    rfl
  · obtain ⟨p, dx, a, L, rfl, hp, ha, hT, hl, ho, k⟩ := h
    have hu := hu_of hr
    refine ⟨_, pss_cons (ps_fld (pv 0) (pv 1) rfl)
      (pss_cons (ps_fld (pv 0) (pe_dpx (own := [("above", 2), ("below", 3), ("steps", 4), ("rank", 5), ("value", 6)]) (O := .dT []) (g := gTup K 5 (gCons (gName 2) (gCons (gName 3) (gCons (gName 4) (gCons (gName 5) (gCons (gName 6) gNil)))))) (.inr rfl) hu rfl ndJ (pi_list (pv 1)) (blkOk_by (N := NJ) (sc := dJInit.scope) (by decide +kernel))
          (fun _ _ _ _ _ => pg_tup rfl (pgs_cons (pg_name (i := 2) ndJ rfl (Or.inl rfl)) (pgs_cons (pg_name (i := 3) ndJ rfl (Or.inl rfl)) (pgs_cons (pg_name (i := 4) ndJ rfl (Or.inl rfl)) (pgs_cons (pg_name (i := 5) ndJ rfl (Or.inl rfl)) (pgs_cons (pg_name (i := 6) ndJ rfl (Or.inl rfl)) pgs_nil))))))
            (fun _ _ _ _ _ => pts_nil) (fun _ _ _ _ _ => pe_tup (pa_cons (pv 2) (pa_cons (pv 3) pa_nil))) (fun _ _ _ _ _ => pv 4)) rfl)
      (pss_cons (ps_asg (pe_tup (pa_cons pe_dnewK (pa_cons pe_dnewK (pa_cons pe_dnewK pa_nil)))) (pg_tup rfl (pgs_cons (pg_fld (pv 0)) (pgs_cons (pg_fld (pv 0)) (pgs_cons (pg_fld (pv 0)) pgs_nil)))))
      (pss_cons (ps_for PassesOwn.never rfl (pi_list (pv 1)) (pg_tup rfl (pgs_cons (pg_name (i := 2) ndJ rfl (Or.inl rfl)) (pgs_cons (pg_name (i := 3) ndJ rfl (Or.inl rfl)) (pgs_cons (pg_name (i := 4) ndJ rfl (Or.inl rfl)) (pgs_cons (pg_name (i := 5) ndJ rfl (Or.inl rfl)) (pgs_cons (pg_name (i := 6) ndJ rfl (Or.inl rfl)) pgs_nil))))))
        (pss_cons (ps_expr (pe_dsetd (pe_fld (pv 0) rfl) (pv 2) (pv 5) ⟨rfl, rfl, rfl, rfl⟩))
        (pss_cons (ps_expr (pe_dsetd (pe_fld (pv 0) rfl) (pv 3) (pv 6) ⟨rfl, rfl, rfl, rfl⟩))
        (pss_one (ps_if (pt_cmpR op_eq (pv 4) pe_int (nomark _))
          (pss_one (ps_expr (pe_bm PySem.F.plainAttrs_list PySem.F.slot_list_append PySem.F.type_list_append mt_append (pe_dsetd (pe_fld (pv 0) rfl) (pv 3) (pe_lst pa_nil) ⟨rfl, rfl, rfl, rfl⟩) (pa_cons (pv 2) pa_nil)))) pss_nil)))))
      (pss_cons (ps_fld (pv 0) (pe_lc (own := [("row", 7)]) (g := gName 7) rfl ndJ (pi_list (pv 1)) (blkOk_by (N := NJ) (sc := dJInit.scope) (by decide +kernel)) (fun _ _ _ _ _ => pg_name (i := 7) ndJ rfl (Or.inl rfl))
          (fun _ _ _ _ _ => pts_one (pt_cmpR op_eq (pe_ix (ix_tupK K rfl) (pv 7) pe_int (fun _ _ => rfl)) pe_int (nomark _))) (fun _ _ _ _ _ => pv 7)) rfl)
      (pss_one (ps_fld (pv 0) (pe_dpx (own := [("place", 8), ("row", 7)]) (O := .dK []) (tk := tOp (rIxT K) (tVar 7) (tC (.int 0))) (g := gTup K 2 (gCons (gName 8) (gCons (gName 7) gNil))) (.inl rfl) hu rfl ndJ (pi_enum (by rfl) T.enum (pa_cons (pv 1) pa_nil)) (blkOk_by (N := NJ) (sc := dJInit.scope) (by decide +kernel))
          (fun _ _ _ _ _ => pg_tup rfl (pgs_cons (pg_name (i := 8) ndJ rfl (Or.inl rfl)) (pgs_cons (pg_name (i := 7) ndJ rfl (Or.inl rfl)) pgs_nil)))
            (fun _ _ _ _ _ => pts_one (pt_cmpR op_eq (pe_ix (ix_tupK K rfl) (pv 7) pe_int (fun _ _ => rfl)) pe_int (nomark _))) (fun _ _ _ _ _ => pe_ix (ix_tupK K rfl) (pv 7) pe_int (fun _ _ => rfl)) (fun _ _ _ _ _ => pv 8)) rfl)))))), ?_⟩
    have npa : a ≠ p := ne_of ha hp (by intro z; cases z)
    have nq : ∀ q ∈ L, q.1 ≠ p := fun q hq => ne_of (hT q hq) hp (by intro z; cases z)
    have hsz : ∀ i, i < L.length → i < sizeLine := fun i hi => small1830 (by omega)
    have hTi : ∀ {H' : Hp}, But p H H' → Tups H' L := fun s => hT.but s nq
    have rat : ∀ {i : Nat} {q : Addr × Rw}, L[i]? = some q → (rws L)[i]? = some q.2 := fun h => by unfold rws; rw [List.getElem?_map, h]; rfl
    -- self.rows = rows
    refine ⟨_, rfl, _, rfl, p, _, dx, _, rfl, hp, T.cJ, T.Jrows, (by show 0 < 1000; decide), ?_⟩
    have b1 : But p H (upd H p (.ins (He.ga K "PairJudge") dx (putF "rows" (.ref a) []))) := (But.refl p H).put
    generalize eH1 : upd H p (.ins (He.ga K "PairJudge") dx (putF "rows" (.ref a) [])) = H1 at b1 ⊢
    have p1 : H1 p = some (.ins (He.ga K "PairJudge") dx (putF "rows" (.ref a) [])) := by rw [← eH1, upd_same]
    -- self.steps = {..}
    refine ⟨_, rfl, a, rfl, ⟨_, SqL.of (b1 _ _ ha npa)⟩, fun D hD => ?_⟩
    have hDp : D ≠ p := fun z => by rw [z, p1] at hD; cases hD
    refine dp_it (walk_list (xs := refs L)) (fun i H' => But p H H' ∧ H' p = some (.ins (He.ga K "PairJudge") dx (putF "rows" (.ref a) [])) ∧ ∃ kvs : List (List Key × V), H' D = some (.dT kvs) ∧ kvs.length ≤ i ∧ ∀ x y : Str, valV kvs [Sum.inr x, Sum.inr y] = (stepOf ((rws L).take i) x y).map V.int)
      ⟨b1.new hD, by rw [upd_ne hDp.symm]; exact p1, [], upd_same, Nat.le_refl _, fun x y => rfl⟩ (fun i H' _ h => SqL.of (h.1 _ _ ha npa)) ?_ ?_
    · rintro i x H2 H3 hi ⟨b2, p2, kvs, hk, hkl, hkv⟩ ⟨rfl, hx⟩
      obtain ⟨q, hq, rfl, hqL, hr⟩ := refs_at hx
      rw [refs_len] at hi
      refine ⟨q.1, cells q.2, rfl, SqT.of (hTi b2 q hqL), rfl, _, _, rfl, _, _, rfl, _, _, rfl, _, _, rfl, _, _, rfl, rfl, rfl, ?_⟩
      refine ⟨_, rfl, _, rfl, (by show 2 ≤ sizeLine; decide), fun t ht => ⟨_, rfl, ?_⟩⟩
      have hDt : D ≠ t := ne_of_none hk ht
      refine ⟨_, .inr ⟨kvs, [Sum.inr q.2.a, Sum.inr q.2.b], t, by rw [upd_ne hDt]; exact hk, rfl, upd_same, Nat.lt_of_le_of_lt hkl (hsz i hi), rfl⟩, ?_⟩
      have hpt : p ≠ t := ne_of_none p2 ht
      refine ⟨(b2.new ht).own (b1.freeB hD hDp), by rw [upd_ne hDp.symm, upd_ne hpt]; exact p2, _, upd_same, Nat.le_trans (length_putK _ _ _) (by omega), fun x y => ?_⟩
      rw [valV_put, hkv, ho.stepPut hr]
      by_cases e : x = q.2.a ∧ y = q.2.b
      · rw [if_pos e, if_pos (by rw [e.1, e.2])]
        rfl
      · rw [if_neg e, if_neg fun z => e (by
          injection z with z1 z2
          injection z2 with z2 z3
          exact ⟨Sum.inr.inj z1, Sum.inr.inj z2⟩)]
    rintro H2 ⟨b2, p2, kS, hkS, hlS, hvS⟩
    rw [refs_len] at hlS
    rw [refs_len, show L.length = (rws L).length from (rws_len L).symm, List.take_length] at hvS
    refine ⟨_, rfl, p, _, dx, _, rfl, p2, T.cJ, T.Jsteps, (by show 1 < 1000; decide), ?_⟩
    have nD0 : H D = none := b1.freeB hD hDp
    have b3 : But p H (upd H2 p (.ins (He.ga K "PairJudge") dx (putF "steps" (.ref D) (putF "rows" (.ref a) [])))) := b2.put
    have hkS3 : (upd H2 p (.ins (He.ga K "PairJudge") dx (putF "steps" (.ref D) (putF "rows" (.ref a) [])))) D = some (.dT kS) := by rw [upd_ne hDp]; exact hkS
    have p3 : (upd H2 p (.ins (He.ga K "PairJudge") dx (putF "steps" (.ref D) (putF "rows" (.ref a) [])))) p = some (.ins (He.ga K "PairJudge") dx [(("rows" : Str), V.ref a), (("steps" : Str), V.ref D)]) := upd_same
    generalize upd H2 p (.ins (He.ga K "PairJudge") dx (putF "steps" (.ref D) (putF "rows" (.ref a) []))) = H3 at b3 hkS3 p3 ⊢
    -- three dicts
    intro dU hU dR hR dV hV
    refine ⟨(by show 3 ≤ sizeLine; decide), fun t ht => ?_⟩
    have nU : dU ≠ p := fun z => by rw [z, p3] at hU; cases hU
    have hR' : H3 dR = none := by
      by_cases z : dR = dU
      · rw [z]; exact hU
      · rw [upd_ne z] at hR; exact hR
    have nUR : dU ≠ dR := fun z => by rw [z, upd_same] at hR; cases hR
    have nR : dR ≠ p := fun z => by rw [z, p3] at hR'; cases hR'
    have nRV : dR ≠ dV := fun z => by rw [z, upd_same] at hV; cases hV
    have nUV : dU ≠ dV := fun z => by rw [z, upd_ne (fun y => nUR (z.trans y)), upd_same] at hV; cases hV
    have hV' : H3 dV = none := by rw [upd_ne nRV.symm, upd_ne nUV.symm] at hV; exact hV
    have nV : dV ≠ p := fun z => by rw [z, p3] at hV'; cases hV'
    have ht3 : t ≠ dV := fun z => by rw [z, upd_same] at ht; cases ht
    have ht2 : t ≠ dR := fun z => by rw [z, upd_ne nRV, upd_same] at ht; cases ht
    have ht1 : t ≠ dU := fun z => by rw [z, upd_ne nUV, upd_ne nUR, upd_same] at ht; cases ht
    have htp : t ≠ p := fun z => by rw [z, upd_ne nV.symm, upd_ne nR.symm, upd_ne nU.symm, p3] at ht; cases ht
    have oU : H dU = none := b3.freeB hU nU
    have oR : H dR = none := b3.freeB hR' nR
    have oV : H dV = none := b3.freeB hV' nV
    have nDU : D ≠ dU := ne_of_none hkS3 hU
    have nDR : D ≠ dR := ne_of_none hkS3 hR'
    have nDV : D ≠ dV := ne_of_none hkS3 hV'
    have b4 : But p H (upd (upd (upd (upd H3 dU (.dK [])) dR (.dK [])) dV (.dK [])) t (.tup [.ref dU, .ref dR, .ref dV])) := (((b3.own oU).own oR).own oV).new ht
    have p4 : (upd (upd (upd (upd H3 dU (.dK [])) dR (.dK [])) dV (.dK [])) t (.tup [.ref dU, .ref dR, .ref dV])) p = some (.ins (He.ga K "PairJudge") dx [(("rows" : Str), V.ref a), (("steps" : Str), V.ref D)]) := by
      rw [upd_ne htp.symm, upd_ne nV.symm, upd_ne nR.symm, upd_ne nU.symm]; exact p3
    have kU : (upd (upd (upd (upd H3 dU (.dK [])) dR (.dK [])) dV (.dK [])) t (.tup [.ref dU, .ref dR, .ref dV])) dU = some (.dK []) := by rw [upd_ne ht1.symm, upd_ne nUV, upd_ne nUR, upd_same]
    have kR : (upd (upd (upd (upd H3 dU (.dK [])) dR (.dK [])) dV (.dK [])) t (.tup [.ref dU, .ref dR, .ref dV])) dR = some (.dK []) := by rw [upd_ne ht2.symm, upd_ne nRV, upd_same]
    have kV : (upd (upd (upd (upd H3 dU (.dK [])) dR (.dK [])) dV (.dK [])) t (.tup [.ref dU, .ref dR, .ref dV])) dV = some (.dK []) := by rw [upd_ne ht3.symm, upd_same]
    have kD : (upd (upd (upd (upd H3 dU (.dK [])) dR (.dK [])) dV (.dK [])) t (.tup [.ref dU, .ref dR, .ref dV])) D = some (.dT kS) := by
      rw [upd_ne (ne_of_none (o := .dT kS) (by rw [upd_ne nDV, upd_ne nDR, upd_ne nDU]; exact hkS3) ht), upd_ne nDV, upd_ne nDR, upd_ne nDU]; exact hkS3
    refine ⟨t, _, rfl, SqT.of upd_same, rfl, ?_⟩
    generalize upd (upd (upd (upd H3 dU (.dK [])) dR (.dK [])) dV (.dK [])) t (.tup [.ref dU, .ref dR, .ref dV]) = H4 at b4 p4 kU kR kV kD ⊢
    refine ⟨_, _, rfl, _, rfl, p, _, dx, _, rfl, p4, T.cJ, T.Juppers, (by show 2 < 1000; decide), ?_⟩
    refine ⟨_, _, rfl, _, rfl, p, _, dx, _, rfl, upd_same, T.cJ, T.Jranks, (by show 3 < 1000; decide), ?_⟩
    refine ⟨_, _, rfl, _, rfl, p, _, dx, _, rfl, upd_same, T.cJ, T.Jvalues, (by show 4 < 1000; decide), rfl, ?_⟩
    have j0 : JL K H (upd (upd (upd H4 p (.ins (He.ga K "PairJudge") dx (putF "uppers" (.ref dU) [(("rows" : Str), V.ref a), (("steps" : Str), V.ref D)]))) p (.ins (He.ga K "PairJudge") dx (putF "first_ranks" (.ref dR) (putF "uppers" (.ref dU) [(("rows" : Str), V.ref a), (("steps" : Str), V.ref D)])))) p
        (.ins (He.ga K "PairJudge") dx (putF "first_values" (.ref dV) (putF "first_ranks" (.ref dR) (putF "uppers" (.ref dU) [(("rows" : Str), V.ref a), (("steps" : Str), V.ref D)]))))) p dx a D dU dR dV (rws L) [] [] [] := by
      refine ⟨b4.put.put.put, upd_same, ⟨_, hp⟩, ⟨kS, by rw [upd_ne hDp, upd_ne hDp, upd_ne hDp]; exact kD, by rw [rws_len]; exact hlS, hvS⟩, ⟨[], by rw [upd_ne nR, upd_ne nR, upd_ne nR]; exact kR, Nat.le_refl _, fun n => rfl⟩, ⟨[], by rw [upd_ne nV, upd_ne nV, upd_ne nV]; exact kV, Nat.le_refl _, fun n => rfl⟩,
        ⟨[], by rw [upd_ne nU, upd_ne nU, upd_ne nU]; exact kU, Nat.le_refl _, fun n _ => rfl, fun n h => absurd rfl h, fun n m c e => by cases e⟩, nUR, nUV, nRV, oU, oR, oV⟩
    generalize (upd (upd (upd H4 p (.ins (He.ga K "PairJudge") dx (putF "uppers" (.ref dU) [(("rows" : Str), V.ref a), (("steps" : Str), V.ref D)]))) p (.ins (He.ga K "PairJudge") dx (putF "first_ranks" (.ref dR) (putF "uppers" (.ref dU) [(("rows" : Str), V.ref a), (("steps" : Str), V.ref D)])))) p
        (.ins (He.ga K "PairJudge") dx (putF "first_values" (.ref dV) (putF "first_ranks" (.ref dR) (putF "uppers" (.ref dU) [(("rows" : Str), V.ref a), (("steps" : Str), V.ref D)]))))) = H5 at j0 ⊢
    -- the loop
    refine ⟨_, rfl, a, rfl, ⟨_, SqL.of (j0.bt _ _ ha npa)⟩, for_list (K := K) (a := a) (xs := refs L) (fun i σ H' => (∃ v2 v3 v4 v5 v6, σ = [some (.ref p), some (.ref a), v2, v3, v4, v5, v6, none, none]) ∧ JL K H H' p dx a D dU dR dV (rws L) ((rws L).take i) ((rws L).take i) ((rws L).take i))
      ⟨⟨_, _, _, _, _, rfl⟩, j0⟩ (fun i σ H' _ h => SqL.of (h.2.bt _ _ ha npa)) ?_ ?_⟩
    · rintro i x σ H6 hx ⟨⟨v2, v3, v4, v5, v6, rfl⟩, j⟩
      obtain ⟨q, hq, rfl, hqL, hr⟩ := refs_at hx
      have hi : i < L.length := (List.getElem?_eq_some_iff.mp hq).1
      have hil : ((rws L).take i).length < 1830 := by rw [List.length_take, rws_len]; omega
      have es : (rws L).take (i + 1) = (rws L).take i ++ [q.2] := FR.take_snoc hr
      refine ⟨q.1, cells q.2, rfl, SqT.of (hTi j.bt q hqL), rfl, _, _, rfl, _, _, rfl, _, _, rfl, _, _, rfl, _, _, rfl, rfl, ?_⟩
      -- first_ranks
      have iR : IsD H6 dR := let ⟨k, e, _⟩ := j.ra; .inl ⟨k, .inl e⟩
      refine ⟨_, rfl, p, _, dx, _, _, rfl, j.ins, T.cJ, T.Jranks, rfl, dR, rfl, iR, _, rfl, _, rfl, rank_set j.ra hil fun v H7 b7 r7 => ?_⟩
      have j7 := j.setR b7 r7
      -- first_values
      have iV : IsD H7 dV := let ⟨k, e, _⟩ := j7.va; .inl ⟨k, .inl e⟩
      refine ⟨_, rfl, p, _, dx, _, _, rfl, j7.ins, T.cJ, T.Jvalues, rfl, dV, rfl, iV, _, rfl, _, rfl, val_set j7.va hil fun v H8 b8 r8 => ?_⟩
      have j8 := j7.setV b8 r8
      rw [← es] at j8
      -- uppers
      refine ⟨_, rfl, rfl, _, rfl, iteC (fun e => ?_) (fun e => ?_)⟩
      · have hs : q.2.s = 1 := V.int.inj e
        have iU : IsD H8 dU := let ⟨k, e, _⟩ := j8.up; .inl ⟨k, .inl e⟩
        refine ⟨_, rfl, p, _, dx, _, _, rfl, j8.ins, T.cJ, T.Juppers, rfl, dU, rfl, iU, _, rfl, (by show 0 ≤ sizeLine; decide), fun z hz => ?_⟩
        have s9 : Same H8 (upd H8 z (.lst [])) := Same.upd hz
        have j9 := j8.more s9
        have hz0 : H z = none := by
          cases ez : H z with
          | none => rfl
          | some o =>
            by_cases zp : z = p
            · rw [zp, j8.ins] at hz; cases hz
            · have := j8.bt _ _ ez zp
              rw [hz] at this; cases this
        have z9 : (upd H8 z (.lst [])) z = some (.lst []) := upd_same
        generalize upd H8 z (.lst []) = H9 at s9 j9 z9 ⊢
        have new9 : ∀ (kvs : List (Key × V)) (n : Str) (c : Addr), H9 dU = some (.dK kvs) → valV kvs (Sum.inr n) = some (.ref c) → c ≠ z := by
          intro kvs n c e1 e2
          obtain ⟨kvs', e3, _, f⟩ := j8.up
          have e4 : kvs = kvs' := by
            rw [s9 _ _ e3] at e1
            cases e1
            rfl
          rw [e4] at e2
          have hne : ups ((rws L).take i) n ≠ [] := fun y => by rw [f.none n y] at e2; cases e2
          obtain ⟨c', e5, _, e6⟩ := f.some n hne
          rw [e5] at e2
          cases e2
          exact ne_of_none e6 hz
        obtain ⟨kvs, k0, e1, e2, e3, e4, e5⟩ := ups_set (Q := fun v H10 => ∃ c : Addr, v = .ref c ∧ But dU H9 H10 ∧ H c = none ∧ c ≠ dU ∧ H10 c = some (.lst ((ups ((rws L).take i) q.2.b).map V.str)) ∧
          (∀ H'', But c H10 H'' → H'' c = some (.lst ((ups ((rws L).take i) q.2.b).map V.str ++ [V.str q.2.a])) → UpsAt H H'' dU ((rws L).take i ++ [q.2]))) j9.up hil hs hz0 z9 new9 fun c H' x1 x2 x3 x4 x5 => ⟨c, rfl, x1, x2, x3, x4, x5⟩
        have fin : ∀ (c : Addr) (H10 : Hp), But dU H9 H10 → H c = none → c ≠ dU → H10 c = some (.lst ((ups ((rws L).take i) q.2.b).map V.str)) →
            (∀ H'', But c H10 H'' → H'' c = some (.lst ((ups ((rws L).take i) q.2.b).map V.str ++ [V.str q.2.a])) → UpsAt H H'' dU ((rws L).take i ++ [q.2])) →
            ((ups ((rws L).take i) q.2.b).map V.str).length < sizeLine ∧ JL K H (upd H10 c (.lst ((ups ((rws L).take i) q.2.b).map V.str ++ [V.str q.2.a]))) p dx a D dU dR dV (rws L) ((rws L).take (i + 1)) ((rws L).take (i + 1)) ((rws L).take (i + 1)) := by
          intro c H10 b10 nc ncd xc fin
          constructor
          · rw [List.length_map]
            have : (ups ((rws L).take i) q.2.b).length ≤ ((rws L).take i).length := by
              unfold ups
              rw [List.length_map]
              exact List.length_filter_le _ _
            exact small1830 (by omega)
          · have u1 := fin _ (But.refl c H10).put upd_same
            rw [← es] at u1
            refine j9.setU (fun y o ey ny nl => ?_) u1
            have hyc : y ≠ c := fun z => by
              have e7 := b10 _ _ ey ny
              rw [z, xc] at e7
              exact nl (by rw [z]; exact nc) _ (Option.some.inj e7).symm
            rw [upd_ne hyc]
            exact b10 _ _ ey ny
        refine ⟨kvs, k0, e1, e2, e3, fun v hv => ?_, fun hn => ?_⟩
        · obtain ⟨c, rfl, x1, x2, x3, x4, x5⟩ := e4 v hv
          obtain ⟨y1, y2⟩ := fin c _ x1 x2 x3 x4 x5
          exact ⟨.inl ⟨rfl, _, SqL.of x4⟩, _, rfl, c, _, _, rfl, rfl, x4, y1, ⟨_, _, _, _, _, rfl⟩, y2⟩
        · obtain ⟨c, ec, x1, x2, x3, x4, x5⟩ := e5 hn
          cases ec
          obtain ⟨y1, y2⟩ := fin z _ x1 x2 x3 x4 x5
          exact ⟨.inl ⟨rfl, _, SqL.of x4⟩, _, rfl, z, _, _, rfl, rfl, x4, y1, ⟨_, _, _, _, _, rfl⟩, y2⟩
      · have hs : q.2.s ≠ 1 := fun z => e (by rw [z])
        refine ⟨⟨_, _, _, _, _, rfl⟩, ?_⟩
        have u1 := ups_skip (r := q.2) j8.up hs
        rw [← es] at u1
        exact j8.setU (fun c o ec _ _ => ec) u1
    rintro σ H6 ⟨⟨v2, v3, v4, v5, v6, rfl⟩, j⟩
    rw [refs_len, show L.length = (rws L).length from (rws_len L).symm, List.take_length] at j
    -- self.selves
    refine ⟨_, rfl, a, rfl, ⟨_, SqL.of (j.bt _ _ ha npa)⟩, fun E1 hE => ?_⟩
    refine lc_it (walk_list (xs := refs L)) (fun i H' => Same H6 H' ∧ H' E1 = some (.lst (refs (selves (L.take i))))) ⟨Same.upd hE, upd_same⟩ (fun i H' _ h => SqL.of (h.1 _ _ (j.bt _ _ ha npa))) ?_ ?_
    · rintro i x H7 H8 hi ⟨s7, e7⟩ ⟨rfl, hx⟩
      obtain ⟨q, hq, rfl, hqL, hr⟩ := refs_at hx
      have hi : i < L.length := (List.getElem?_eq_some_iff.mp hq).1
      have hl2 : (refs (selves (L.take i))).length < sizeLine := by
        rw [refs_len]
        have h1 : (selves (L.take i)).length ≤ (L.take i).length := List.length_filter_le _ _
        rw [List.length_take] at h1
        exact small1830 (by omega)
      refine ⟨rfl, _, rfl, q.1, cells q.2, 2, _, rfl, rfl, SqT.of (s7 _ _ (hTi j.bt q hqL)), rfl, rfl, _, rfl, iteC (fun e => ?_) (fun e => ?_)⟩
      · have h0 : q.2.s = 0 := V.int.inj e
        refine ⟨_, rfl, _, e7, hl2, fun b o eb => ?_, ?_⟩
        · rw [upd_ne (ne_of_none eb hE)]
          exact s7 _ _ eb
        · rw [upd_same, FR.take_snoc hq]
          unfold selves refs
          rw [List.filter_append, List.filter_cons_of_pos (by simp [h0]), List.map_append]
          rfl
      · have h0 : q.2.s ≠ 0 := fun z => e (by rw [z])
        refine ⟨s7, ?_⟩
        rw [e7, FR.take_snoc hq]
        unfold selves refs
        rw [List.filter_append, List.filter_cons_of_neg (by simp [h0]), List.map_append]
        simp
    rintro H7 ⟨s7, e7⟩
    rw [refs_len, List.take_length] at e7
    have j7 := j.more s7
    have nE : E1 ≠ p := ne_of e7 j7.ins (by intro z; cases z)
    have nE0 : H E1 = none := j.bt.freeB hE nE
    refine ⟨_, rfl, p, _, dx, _, rfl, j7.ins, T.cJ, T.Jselves, (by show 5 < 1000; decide), ?_⟩
    have b8 : But p H7 (upd H7 p (.ins (He.ga K "PairJudge") dx (putF "selves" (.ref E1) (jF5 a D dU dR dV)))) := (But.refl p H7).put
    have p8 : (upd H7 p (.ins (He.ga K "PairJudge") dx (putF "selves" (.ref E1) (jF5 a D dU dR dV)))) p = some (.ins (He.ga K "PairJudge") dx (putF "selves" (.ref E1) (jF5 a D dU dR dV))) := upd_same
    generalize upd H7 p (.ins (He.ga K "PairJudge") dx (putF "selves" (.ref E1) (jF5 a D dU dR dV))) = H8 at b8 p8 ⊢
    have a8 := b8 _ _ (j7.bt _ _ ha npa) npa
    -- self.spots
    refine ⟨_, rfl, a, _, rfl, SqL.of a8, fun D2 hD2 => ?_⟩
    have nD2 : D2 ≠ p := fun z => by rw [z, p8] at hD2; cases hD2
    refine dp_it (walk_enum (xs := refs L)) (fun i H' => Same H8 H' ∧ SpotsAt H' D2 ((rws L).take i)) ⟨Same.upd hD2, ⟨[], upd_same, Nat.zero_le _, fun n => rfl⟩⟩ (fun i H' _ h => SqL.of (h.1 _ _ a8)) ?_ ?_
    · rintro i x H9 _ hi ⟨s9, kvs, e9, l9, f9⟩ ⟨t2, _, _, rfl, ht2, rfl, hc, hx⟩
      cases hc
      obtain ⟨q, hq, rfl, hqL, hr⟩ := refs_at hx
      have hi : i < L.length := (List.getElem?_eq_some_iff.mp hq).1
      have s10 : Same H9 (upd H9 t2 (.tup [.int (i : Nat), .ref q.1])) := Same.upd ht2
      have hl2 : kvs.length ≤ i := by rw [List.length_take] at l9; omega
      refine ⟨t2, _, rfl, SqT.of upd_same, rfl, _, _, rfl, _, _, rfl, rfl, rfl, ?_⟩
      have hrow := s10 _ _ (s9 _ _ (b8 _ _ (s7 _ _ (hTi j.bt q hqL)) (nq q hqL)))
      refine ⟨_, rfl, q.1, cells q.2, 2, _, rfl, rfl, SqT.of hrow, rfl, rfl, _, rfl, iteC (fun e => ?_) (fun e => ?_)⟩
      · have h0 : q.2.s = 0 := V.int.inj e
        refine ⟨_, rfl, q.1, cells q.2, 0, _, rfl, rfl, SqT.of hrow, rfl, _, rfl, _, .inl ⟨kvs, Sum.inr q.2.a, s10 _ _ e9, rfl, small1830 (by omega), rfl⟩, ?_⟩
        refine ⟨fun b o eb => ?_, _, upd_same, ?_, fun n => ?_⟩
        · rw [upd_ne (ne_of_none eb hD2)]
          exact s10 _ _ (s9 _ _ eb)
        · have h1 := length_putK kvs (Sum.inr q.2.a : Key) (.int (i : Nat))
          rw [List.length_take, rws_len]
          omega
        · rw [valV_put, f9, ho.spotPut hr h0]
          by_cases z : n = q.2.a
          · rw [if_pos (by rw [z]), if_pos z]
            rfl
          · rw [if_neg (fun y => z (Sum.inr.inj y)), if_neg z]
      · have h0 : q.2.s ≠ 0 := fun z => e (by rw [z])
        refine ⟨fun b o eb => s10 _ _ (s9 _ _ eb), kvs, s10 _ _ e9, ?_, fun n => ?_⟩
        · rw [List.length_take, rws_len]
          omega
        · rw [f9, FR.spotSkip hr h0]
    rintro H9 ⟨s9, f9⟩
    rw [refs_len, show L.length = (rws L).length from (rws_len L).symm, List.take_length] at f9
    refine ⟨_, rfl, p, _, dx, _, rfl, s9 _ _ p8, T.cJ, T.Jspots, (by show 6 < 1000; decide), ?_⟩
    have b9 : But p H7 (upd H9 p (.ins (He.ga K "PairJudge") dx (putF "spots" (.ref D2) (putF "selves" (.ref E1) (jF5 a D dU dR dV))))) := (b8.trans (But.of s9)).put
    refine k _ ⟨dx, a, D, dU, dR, dV, E1, D2, upd_same, b9 _ _ (j7.bt _ _ ha npa) npa, ?_, ?_, ⟨H, ?_⟩, ?_, ?_, b9 _ _ e7 nE, ?_⟩ ((j7.bt).trans b9)
    · exact fun q hq => b9 _ _ (s7 _ _ (hTi j.bt q hq)) (nq q hq)
    · obtain ⟨x, ex, hx⟩ := j7.st
      exact ⟨x, b9 _ _ ex hDp, hx⟩
    · obtain ⟨x, ex, hx, f⟩ := j7.up
      exact ⟨x, b9 _ _ ex nU, hx, f.none, fun n hn => let ⟨c, y1, y2, y3⟩ := f.some n hn; ⟨c, y1, y2, b9 _ _ y3 (ne_of y3 j7.ins (by intro z; cases z))⟩, f.inj⟩
    · obtain ⟨x, ex, hx⟩ := j7.ra
      exact ⟨x, b9 _ _ ex nR, hx⟩
    · obtain ⟨x, ex, hx⟩ := j7.va
      exact ⟨x, b9 _ _ ex nV, hx⟩
    · obtain ⟨x, ex, hx⟩ := f9
      exact ⟨x, by rw [upd_ne nD2]; exact ex, hx⟩
end
end KW
end

section
set_option Elab.async false
set_option linter.all false
set_option maxRecDepth 100000
set_option maxHeartbeats 4000000
/-! A comprehension of flat values, told by its list; the judge's first methods. -/
namespace KW
open PySem PySem.Spec PyProof.Rows L2 KR
open FR (Ok Rows stepOf rankOf valueOf spot ups)
/-- [e for .. if ..] over the items xs, in a heap that only grows: g tells what each item gives -/
theorem lc_map {α : Type} {J : It} {G : Hp → Prop} {Y : Nat → Hp → V → Hp → Prop} {tg : TG} {tt : TT} {te : TE} {vs : List Nat} {σ : L2.St} {H1 : Hp} {D : Addr} {Qd : Hp → Prop} (xs : List α) (g : α → Option V) (w : Walk J xs.length G Y) (hD : H1 D = none) (hn : xs.length < sizeLine)
    (hG : ∀ H, Same H1 H → G H)
    (hs : ∀ (i : Nat) (a : α) (x : V) (H H' : Hp) (R : V → Hp → Prop) (N : Hp → Prop), xs[i]? = some a → Same H1 H → Y i H x H' → (∀ y H4, g a = some y → Same H H4 → R y H4) → (∀ H3, g a = none → Same H H3 → N H3) →
      tg x (wipe σ vs) H' fun σ2 H2 => wipe σ2 vs = wipe σ vs ∧ tt σ2 H2 fun b H3 => if b = true then te σ2 H3 R else N H3)
    (hd : ∀ H, Same H1 H → H D = some (.lst (xs.filterMap g)) → Qd H) :
    ∃ W : Nat → Nat → Hp → Prop, (∃ m, W 0 m (upd H1 D (.lst []))) ∧ ∀ i m H, W i m H →
      (J.stop i H ∧ Qd H) ∨ (J.go i H ∧ ∃ Nx : Hp → Prop, (∀ H', Nx H' → ∃ m', m' < m ∧ W (i + 1) m' H') ∧ ∀ x H', J.yld i H x H' → tg x (wipe σ vs) H' fun σ2 H2 => wipe σ2 vs = wipe σ vs ∧ tt σ2 H2 fun b H3 =>
        if b = true then te σ2 H3 fun y H4 => ∃ acc, H4 D = some (.lst acc) ∧ acc.length < sizeLine ∧ Nx (upd H4 D (.lst (acc ++ [y]))) else Nx H3) := by
  refine lc_it w (fun i H => Same H1 H ∧ H D = some (.lst ((xs.take i).filterMap g))) ⟨Same.upd hD, upd_same⟩ (fun i H _ h => hG H h.1) ?_ ?_
  · rintro i x H H' hi ⟨s, e⟩ y
    have hx : xs[i]? = some xs[i] := List.getElem?_eq_getElem hi
    have et : xs.take (i + 1) = xs.take i ++ [xs[i]] := FR.take_snoc hx
    refine hs i _ x H H' _ _ hx s y (fun z H4 hz s4 => ⟨_, s4 _ _ e, ?_, fun b o eb => ?_, ?_⟩) (fun H3 hz s3 => ⟨s.trans s3, ?_⟩)
    · have h1 : ((xs.take i).filterMap g).length ≤ (xs.take i).length := List.length_filterMap_le _ _
      rw [List.length_take] at h1
      omega
    · rw [upd_ne (ne_of_none eb hD)]
      exact s4 _ _ (s _ _ eb)
    · rw [upd_same, et, List.filterMap_append]
      simp [hz]
    · rw [s3 _ _ e, et, List.filterMap_append]
      simp [hz]
  · rintro H ⟨s, e⟩
    rw [List.take_length] at e
    exact hd H s e
theorem bl_inj {xs ys : List Bool} (h : xs = ys) : xs.map V.bl = ys.map V.bl := by rw [h]
def uV : Option Str → V
  | none => .non
  | some z => .str z
section
variable {P : Program} {w : World} {K : PySem.W.Frag} {mg : Str → Option Value} {base : Heap}
def spUpper (K : PySem.W.Frag) : Sp := fun vs H Q _ => ∃ (p : Addr) (n : Str) (L : RL), vs = [.ref p, .str n] ∧ JudgeAt K H p L ∧ L.length ≤ 1830 ∧ ∀ H', Same H H' → Q (uV (FR.parent (rws L) n)) H'
theorem ups_len (rs : Rows Str) (n : Str) : (ups rs n).length ≤ rs.length := by
  unfold ups
  rw [List.length_map]
  exact List.length_filter_le _ _
theorem ok_jupper (T : TX K mg) : DfX P w K mg base 1 dJUpper ["self", "name"] (spUpper K) := by
  refine df_mk T 29 rfl (N := ["self", "name"]) ⟨rfl, rfl, rfl, by decide +kernel, rfl, by decide +kernel, by decide +kernel⟩ (fun _ _ _ _ _ _ us hl => match us, hl with | [_, _], _ => rfl) (fun vs H Q E h => ?_) (fun cdv A outer s H vs Q E hr h => ?_)
  · obtain ⟨p, dx, L, rfl, _⟩ := h
    rfl
  · obtain ⟨p, n, L, rfl, J, hl, k⟩ := h
    have hu := hu_of hr
    obtain ⟨dx, a, dS, dU, dR, dV, aS, dP, h1, h2, h3, h4, ⟨H0, kU, e5, l5, f5⟩, h6, h7, h8, h9⟩ := J.ex
    refine ⟨_, pss_one (ps_ret (pe_ix ix_list (pe_op op_cat (pe_dget2 hu (pe_fld (pv 0) rfl) (pv 1) (pe_lst pa_nil) ⟨rfl, rfl, rfl, rfl⟩) (pe_lst (pa_cons pe_non pa_nil))) pe_int (fun _ _ => rfl))), ?_⟩
    refine ⟨_, rfl, p, _, dx, _, _, rfl, h1, T.cJ, T.Juppers, rfl, dU, rfl, .inl ⟨_, .inl e5⟩, _, rfl, (by show 0 ≤ sizeLine; decide), fun z hz => ?_⟩
    have s1 : Same H (upd H z (.lst [])) := Same.upd hz
    refine ⟨_, DGet.k (k := Sum.inr n) (s1 _ _ e5), (by show 1 ≤ sizeLine; decide), fun y hy => ?_⟩
    have s2 : Same (upd H z (.lst [])) (upd (upd H z (.lst [])) y (.lst [V.non])) := Same.upd hy
    have hul := ups_len (rws L) n
    rw [rws_len] at hul
    by_cases hn : ups (rws L) n = []
    · rw [f5.none n hn]
      refine ⟨z, y, [], [V.non], rfl, rfl, s2 _ _ upd_same, upd_same, (by show 1 ≤ sizeLine; decide), fun q hq => ?_⟩
      refine ⟨q, _, 0, V.non, rfl, rfl, SqL.of upd_same, rfl, ?_⟩
      have e : FR.parent (rws L) n = none := by unfold FR.parent; rw [hn]; rfl
      have := k _ ((s1.trans s2).trans (Same.upd (o := .lst ([] ++ [V.non])) hq))
      rw [e] at this
      exact this
    · obtain ⟨c, ec, _, xc⟩ := f5.some n hn
      rw [ec]
      cases eu : ups (rws L) n with
      | nil => exact absurd eu hn
      | cons x t =>
        rw [eu] at xc hul
        refine ⟨c, y, _, [V.non], rfl, rfl, s2 _ _ (s1 _ _ xc), upd_same, ?_, fun q hq => ?_⟩
        · rw [List.length_map, List.length_singleton]
          have := small1830 (n := (x :: t).length + 1) (by omega)
          omega
        · refine ⟨q, _, 0, V.str x, rfl, rfl, SqL.of upd_same, atI_nat (j := 0) rfl, ?_⟩
          have e : FR.parent (rws L) n = some x := by unfold FR.parent; rw [eu]; rfl
          have := k _ ((s1.trans s2).trans (Same.upd (o := .lst ((x :: t).map V.str ++ [V.non])) hq))
          rw [e] at this
          exact this
/-- a question about a place -/
def spPl (K : PySem.W.Frag) (f : Rows Str → Nat → Rw → Bool) : Sp := fun vs H Q _ => ∃ (p : Addr) (i : Nat) (L : RL) (r : Rw), vs = [.ref p, .int (i : Nat)] ∧ JudgeAt K H p L ∧ L.length ≤ 1830 ∧ Ok (rws L) ∧ (rws L)[i]? = some r ∧ ∀ H', Same H H' → Q (.bl (f (rws L) i r)) H'
theorem row_at {H : Hp} {L : RL} (hT : Tups H L) {i : Nat} {r : Rw} (h : (rws L)[i]? = some r) : ∃ q : Addr, (refs L)[i]? = some (.ref q) ∧ H q = some (.tup (cells r)) := by
  unfold rws at h
  rw [List.getElem?_map] at h
  cases e : L[i]? with
  | none => rw [e] at h; cases h
  | some q =>
    rw [e] at h
    have e2 : q.2 = r := Option.some.inj h
    exact ⟨q.1, refs_of e, by rw [← e2]; exact hT q (List.mem_of_getElem? e)⟩
theorem ok_jrank (T : TX K mg) : DfX P w K mg base 1 dJRank ["self", "place"] (spPl K fun rs _ r => FR.jRanks rs r) := by
  refine df_mk T 33 rfl (N := ["self", "place"]) ⟨rfl, rfl, rfl, by decide +kernel, rfl, by decide +kernel, by decide +kernel⟩ (fun _ _ _ _ _ _ us hl => match us, hl with | [_, _], _ => rfl) (fun vs H Q E h => ?_) (fun cdv A outer s H vs Q E hr h => ?_)
  · obtain ⟨p, i, L, r, rfl, _⟩ := h
    rfl
  · obtain ⟨p, i, L, r, rfl, J, hl, ho, hi, k⟩ := h
    have hu := hu_of hr
    obtain ⟨dx, a, dS, dU, dR, dV, aS, dP, h1, h2, h3, h4, h5, ⟨kR, e6, l6, f6⟩, h7, h8, h9⟩ := J.ex
    obtain ⟨q, hq, eq⟩ := row_at h3 hi
    refine ⟨_, pss_one (ps_ret (pe_cmpR op_ne (pe_ix ix_tup (pe_ix ix_list (pe_fld (pv 0) rfl) (pv 1) (fun _ _ => rfl)) pe_int (fun _ _ => rfl))
      (pe_dget hu (pe_fld (pv 0) rfl) (pe_ix ix_tup (pe_ix ix_list (pe_fld (pv 0) rfl) (pv 1) (fun _ _ => rfl)) pe_int (fun _ _ => rfl)) (fun _ _ => rfl)) (nomark _))), ?_⟩
    obtain ⟨y, ey⟩ : ∃ y, rankOf (rws L) r.a = some y := by
      cases e : rankOf (rws L) r.a with
      | some y => exact ⟨y, rfl⟩
      | none =>
        unfold rankOf at e
        have := List.find?_eq_none.mp (Option.map_eq_none_iff.mp e) r (List.mem_of_getElem? hi)
        simp at this
    refine ⟨_, rfl, p, _, dx, _, _, rfl, h1, T.cJ, T.Jrows, rfl, _, rfl, a, _, _, _, rfl, rfl, SqL.of h2, atI_nat hq, q, cells r, 3, _, rfl, rfl, SqT.of eq, rfl, ?_⟩
    refine ⟨_, rfl, p, _, dx, _, _, rfl, h1, T.cJ, T.Jranks, rfl, _, rfl, p, _, dx, _, _, rfl, h1, T.cJ, T.Jrows, rfl, _, rfl, a, _, _, _, rfl, rfl, SqL.of h2, atI_nat hq, q, cells r, 0, _, rfl, rfl, SqT.of eq, rfl, ?_⟩
    refine ⟨dR, .int y, rfl, ?_, rfl, ?_⟩
    · have g := DGet.k (k := Sum.inr r.a) e6
      rw [f6, ey] at g
      exact g
    · have : Q (.bl (!decide (some r.k = rankOf (rws L) r.a))) H := k _ (Same.refl H)
      rw [ey] at this
      have e : (decide (some r.k = some y)) = decide (V.int r.k = V.int y) := by
        by_cases z : r.k = y
        · rw [z]; simp
        · rw [decide_eq_false (fun w => z (Option.some.inj w)), decide_eq_false (fun w => z (V.int.inj w))]
      rw [e] at this
      exact this
theorem ok_jvalue (T : TX K mg) : DfX P w K mg base 1 dJValue ["self", "place"] (spPl K fun rs _ r => FR.jValues rs r) := by
  refine df_mk T 34 rfl (N := ["self", "place"]) ⟨rfl, rfl, rfl, by decide +kernel, rfl, by decide +kernel, by decide +kernel⟩ (fun _ _ _ _ _ _ us hl => match us, hl with | [_, _], _ => rfl) (fun vs H Q E h => ?_) (fun cdv A outer s H vs Q E hr h => ?_)
  · obtain ⟨p, i, L, r, rfl, _⟩ := h
    rfl
  · obtain ⟨p, i, L, r, rfl, J, hl, ho, hi, k⟩ := h
    have hu := hu_of hr
    obtain ⟨dx, a, dS, dU, dR, dV, aS, dP, h1, h2, h3, h4, h5, h6, ⟨kV, e7, l7, f7⟩, h8, h9⟩ := J.ex
    obtain ⟨q, hq, eq⟩ := row_at h3 hi
    refine ⟨_, pss_one (ps_ret (pe_cmpR op_ne (pe_ix ix_tup (pe_ix ix_list (pe_fld (pv 0) rfl) (pv 1) (fun _ _ => rfl)) pe_int (fun _ _ => rfl))
      (pe_dget hu (pe_fld (pv 0) rfl) (pe_ix ix_tup (pe_ix ix_list (pe_fld (pv 0) rfl) (pv 1) (fun _ _ => rfl)) pe_int (fun _ _ => rfl)) (fun _ _ => rfl)) (nomark _))), ?_⟩
    obtain ⟨y, ey⟩ : ∃ y, valueOf (rws L) r.b = some y := by
      cases e : valueOf (rws L) r.b with
      | some y => exact ⟨y, rfl⟩
      | none =>
        unfold valueOf at e
        have := List.find?_eq_none.mp (Option.map_eq_none_iff.mp e) r (List.mem_of_getElem? hi)
        simp at this
    refine ⟨_, rfl, p, _, dx, _, _, rfl, h1, T.cJ, T.Jrows, rfl, _, rfl, a, _, _, _, rfl, rfl, SqL.of h2, atI_nat hq, q, cells r, 4, _, rfl, rfl, SqT.of eq, rfl, ?_⟩
    refine ⟨_, rfl, p, _, dx, _, _, rfl, h1, T.cJ, T.Jvalues, rfl, _, rfl, p, _, dx, _, _, rfl, h1, T.cJ, T.Jrows, rfl, _, rfl, a, _, _, _, rfl, rfl, SqL.of h2, atI_nat hq, q, cells r, 1, _, rfl, rfl, SqT.of eq, rfl, ?_⟩
    refine ⟨dV, .int y, rfl, ?_, rfl, ?_⟩
    · have g := DGet.k (k := Sum.inr r.b) e7
      rw [f7, ey] at g
      exact g
    · have : Q (.bl (!decide (some r.v = valueOf (rws L) r.b))) H := k _ (Same.refl H)
      rw [ey] at this
      have e : (decide (some r.v = some y)) = decide (V.int r.v = V.int y) := by
        by_cases z : r.v = y
        · rw [z]; simp
        · rw [decide_eq_false (fun w => z (Option.some.inj w)), decide_eq_false (fun w => z (V.int.inj w))]
      rw [e] at this
      exact this
/-- any of a list of bools made by a comprehension -/
theorem any_map {α : Type} (xs : List α) (f : α → Bool) : ((xs.filterMap fun a => some (V.bl (f a)))) = (xs.map f).map V.bl := by
  rw [List.filterMap_eq_map', List.map_map] <;> rfl
theorem ok_jself (T : TX K mg) : DfX P w K mg base 1 dJSelf ["self", "place"] (spPl K fun rs _ r => FR.jSelf rs r) := by
  refine df_mk T 30 rfl (N := ["self", "place", "name"]) ⟨rfl, rfl, rfl, by decide +kernel, rfl, by decide +kernel, by decide +kernel⟩ (fun _ _ _ _ _ _ us hl => match us, hl with | [_, _], _ => rfl) (fun vs H Q E h => ?_) (fun cdv A outer s H vs Q E hr h => ?_)
  · obtain ⟨p, i, L, r, rfl, _⟩ := h
    rfl
  · obtain ⟨p, i, L, r, rfl, J, hl, ho, hi, k⟩ := h
    have hu := hu_of hr
    have nd : (["self", "place", "name"] : List Str).Nodup := by decide +kernel
    obtain ⟨dx, a, dS, dU, dR, dV, aS, dP, h1, h2, h3, ⟨kS, e4, l4, f4⟩, h5, h6, h7, h8, h9⟩ := J.ex
    obtain ⟨q, hq, eq⟩ := row_at h3 hi
    refine ⟨_, pss_one (ps_ret (pe_callB (cr_any rfl) (by rfl) T.any (by decide +kernel) (pa_cons (pe_lc (own := [("name", 2)]) (g := gName 2) (tt := tYes) rfl nd
      (pi_tup (pe_slice sl_tup (pe_ix ix_list (pe_fld (pv 0) rfl) (pv 1) (fun _ _ => rfl)) po_none (po_some pe_int))) (blkOk_by (N := ["self", "place", "name"]) (sc := dJSelf.scope) (by decide +kernel))
      (fun _ _ _ _ _ => pg_name (i := 2) nd rfl (Or.inl rfl)) (fun _ _ _ _ _ => pts_nil) (fun _ _ _ _ _ => pe_cmp (pc_dnotin hu (pe_tup (pa_cons (pv 2) (pa_cons (pv 2) pa_nil))) (pe_fldK K rfl (pv 0) rfl)) rfl)) pa_nil))), ?_⟩
    refine ⟨_, rfl, p, _, dx, _, _, rfl, h1, T.cJ, T.Jrows, rfl, _, rfl, a, _, _, _, rfl, rfl, SqL.of h2, atI_nat hq, ?_⟩
    refine ⟨2, rfl, q, cells r, rfl, SqT.of eq, (by show ¬ (HT.sIx 5 0 none = 0 ∧ HT.sIx 5 5 (some 2) = 5); decide), fun c hc => ?_⟩
    have s1 : Same H (upd H c (.tup (cutV (cells r) none (some 2)))) := Same.upd hc
    have ec : (upd H c (.tup (cutV (cells r) none (some 2)))) c = some (.tup [V.str r.a, V.str r.b]) := upd_same
    generalize upd H c (.tup (cutV (cells r) none (some 2))) = H1 at s1 ec ⊢
    refine ⟨c, rfl, ⟨_, SqT.of ec⟩, fun D hD => ?_⟩
    refine lc_map (α := Str) [r.a, r.b] (fun n => some (.bl (stepOf (rws L) n n).isNone)) (walk_tup (xs := [V.str r.a, V.str r.b])) hD (by show 2 < sizeLine; decide) (fun H2 s2 => SqT.of (s2 _ _ ec)) ?_ ?_
    · rintro j n x H2 H3 R N hn s2 ⟨rfl, hx⟩ hR hN
      have ex : x = V.str n := by
        match j, hn, hx with
        | 0, hn, hx => cases hn; cases hx; rfl
        | 1, hn, hx => cases hn; cases hx; rfl
        | j + 2, hn, hx => cases hn
      subst ex
      refine ⟨rfl, _, rfl, _, rfl, (by show 2 ≤ sizeLine; decide), fun t ht => ?_⟩
      have s3 : Same H3 (upd H3 t (.tup [.str n, .str n])) := Same.upd ht
      refine ⟨_, rfl, p, _, dx, _, _, rfl, s3 _ _ (s2 _ _ (s1 _ _ h1)), T.cJ, T.Jsteps, rfl, dS, _, rfl, DGet.t (k := [Sum.inr n, Sum.inr n]) (s3 _ _ (s2 _ _ (s1 _ _ e4))) upd_same, ?_⟩
      refine hR _ _ ?_ s3
      rw [f4]
      cases stepOf (rws L) n n <;> rfl
    · intro H2 s2 e2
      refine ⟨D, _, rfl, SqL.of (by rw [e2, any_map]), ?_⟩
      have := k _ (s1.trans s2)
      have e : ((([r.a, r.b] : List Str).map fun n => (stepOf (rws L) n n).isNone).any id) = FR.jSelf (rws L) r := by simp [FR.jSelf]
      rw [e]
      exact this
end
end KW
end

section
set_option Elab.async false
set_option linter.all false
set_option maxRecDepth 100000
set_option maxHeartbeats 4000000
/-! The judge: line, gap. -/
namespace KW
open PySem PySem.Spec PyProof.Rows L2 KR
open FR (Ok Rows stepOf rankOf valueOf spot ups)
theorem ups_get {K : PySem.W.Frag} {H0 H H1 : Hp} {d z : Addr} {rs : Rows Str} {n : Str} (hU : UpsAt H0 H d rs) (s : Same H H1) (hz : H1 z = some (.lst [])) :
    ∃ (o : Option V) (c : Addr), DGet H1 d (.str n) o ∧ o.getD (.ref z) = .ref c ∧ H1 c = some (.lst ((ups rs n).map V.str)) := by
  obtain ⟨kvs, e, hl, f⟩ := hU
  have g := DGet.k (k := Sum.inr n) (s _ _ e)
  by_cases h : ups rs n = []
  · rw [f.none n h] at g
    exact ⟨_, z, g, rfl, by rw [h]; exact hz⟩
  · obtain ⟨c, ec, _, xc⟩ := f.some n h
    rw [ec] at g
    exact ⟨_, c, g, rfl, s _ _ xc⟩
theorem getD_int (o : Option Int) (i : Int) : (o.map V.int).getD (.int i) = .int (o.getD i) := by cases o <;> rfl
theorem dInt (x y : Int) : decide (V.int x = V.int y) = decide (x = y) := by
  by_cases h : x = y
  · rw [h]; simp
  · rw [decide_eq_false h, decide_eq_false fun z => h (V.int.inj z)]
theorem uV_inj {a b : Option Str} (h : uV a = uV b) : a = b := by
  cases a <;> cases b
  · rfl
  · cases h
  · cases h
  · cases h; rfl
theorem dUV (a b : Option Str) : decide (uV a = uV b) = decide (a = b) := by
  by_cases h : a = b
  · rw [h]; simp
  · rw [decide_eq_false h, decide_eq_false fun z => h (uV_inj z)]
theorem scal_uV (a b : Option Str) : scal (uV a) (uV b) = true := by cases a <;> cases b <;> rfl
theorem filterMap_ite {α β : Type} (c : α → Prop) [DecidablePred c] (f : α → β) : ∀ l : List α, l.filterMap (fun x => if c x then some (f x) else none) = (l.filter fun x => decide (c x)).map f
  | [] => rfl
  | x :: t => by
    by_cases z : c x
    · rw [List.filterMap_cons, List.filter_cons_of_pos (by simp [z]), List.map_cons, ← filterMap_ite c f t, if_pos z]
    · rw [List.filterMap_cons, List.filter_cons_of_neg (by simp [z]), ← filterMap_ite c f t, if_neg z]
theorem map_at {α : Type} {xs : List α} {f : α → V} {j : Nat} {a : α} {x : V} (h : xs[j]? = some a) (hx : (xs.map f)[j]? = some x) : x = f a := by
  rw [List.getElem?_map, h] at hx
  exact (Option.some.inj hx).symm
theorem walk_map {α : Type} {K : PySem.W.Frag} {a : Addr} (xs : List α) (f : α → V) : Walk (Itl K a) xs.length (fun H => SqL K H a (xs.map f)) (YAt (xs.map f)) := by
  have := walk_list (K := K) (a := a) (xs := xs.map f)
  rw [List.length_map] at this
  exact this
section
variable {P : Program} {w : World} {K : PySem.W.Frag} {mg : Str → Option Value} {base : Heap}
theorem ok_jgap (T : TX K mg) : DfX P w K mg base 1 dJGap ["self", "place"] (spPl K fun rs _ r => FR.jGap rs r) := by
  refine df_mk T 32 rfl (N := ["self", "place", "above", "below", "steps", "rank", "value", "other"]) ⟨rfl, rfl, rfl, by decide +kernel, rfl, by decide +kernel, by decide +kernel⟩ (fun _ _ _ _ _ _ us hl => match us, hl with | [_, _], _ => rfl) (fun vs H Q E h => ?_) (fun cdv A outer s H vs Q E hr h => ?_)
  · obtain ⟨p, i, L, r, rfl, _⟩ := h
    rfl
  · obtain ⟨p, i, L, r, rfl, J, hl, ho, hi, k⟩ := h
    have hu := hu_of hr
    have nd : (["self", "place", "above", "below", "steps", "rank", "value", "other"] : List Str).Nodup := by decide +kernel
    obtain ⟨dx, a, dS, dU, dR, dV, aS, dP, h1, h2, h3, ⟨kS, e4, l4, f4⟩, ⟨H0, h5⟩, h6, h7, h8, h9⟩ := J.ex
    obtain ⟨q, hq, eq⟩ := row_at h3 hi
    refine ⟨_, pss_cons (ps_asg (pe_ix ix_list (pe_fld (pv 0) rfl) (pv 1) (fun _ _ => rfl)) (pg_tup rfl (pgs_cons (pg_name (i := 2) nd rfl (Or.inl rfl)) (pgs_cons (pg_name (i := 3) nd rfl (Or.inr rfl)) (pgs_cons (pg_name (i := 4) nd rfl (Or.inr rfl)) (pgs_cons (pg_name (i := 5) nd rfl (Or.inl rfl)) (pgs_cons (pg_name (i := 6) nd rfl (Or.inl rfl)) pgs_nil)))))))
      (pss_one (ps_ret (pe_callB (cr_any rfl) (by rfl) T.any (by decide +kernel) (pa_cons (pe_lc (own := [("other", 7)]) (g := gName 7) (tt := tYes) rfl nd
      (pi_list (pe_dget2 hu (pe_fld (pv 0) rfl) (pv 2) (pe_lst pa_nil) ⟨rfl, rfl, rfl, rfl⟩)) (blkOk_by (N := ["self", "place", "above", "below", "steps", "rank", "value", "other"]) (sc := dJGap.scope) (by decide +kernel))
      (fun _ _ _ _ _ => pg_name (i := 7) nd rfl (Or.inl rfl)) (fun _ _ _ _ _ => pts_nil) (fun _ _ _ _ _ => pe_cmpR op_ne (pe_dget2 hu (pe_fldK K rfl (pv 0) rfl) (pe_tup (pa_cons (pv 7) (pa_cons (pv 3) pa_nil))) (pe_un un_neg pe_int) ⟨rfl, rfl, rfl, rfl⟩) (pe_op op_add (pv 4) pe_int) (nomark _))) pa_nil)))), ?_⟩
    refine ⟨_, rfl, p, _, dx, _, _, rfl, h1, T.cJ, T.Jrows, rfl, _, rfl, a, _, _, _, rfl, rfl, SqL.of h2, atI_nat hq, ?_⟩
    refine ⟨q, cells r, rfl, SqT.of eq, rfl, _, _, rfl, _, _, rfl, _, _, rfl, _, _, rfl, _, _, rfl, rfl, ?_⟩
    refine ⟨_, rfl, p, _, dx, _, _, rfl, h1, T.cJ, T.Juppers, rfl, dU, rfl, let ⟨_, e, _⟩ := h5; .inl ⟨_, .inl e⟩, _, rfl, (by show 0 ≤ sizeLine; decide), fun z hz => ?_⟩
    have s1 : Same H (upd H z (.lst [])) := Same.upd hz
    have ez : (upd H z (.lst [])) z = some (.lst []) := upd_same
    generalize upd H z (.lst []) = H1 at s1 ez ⊢
    obtain ⟨o, c, g, eo, ec⟩ := ups_get (K := K) (n := r.a) h5 s1 ez
    refine ⟨o, g, c, eo, ⟨_, SqL.of ec⟩, fun D hD => ?_⟩
    have hul := ups_len (rws L) r.a
    rw [rws_len] at hul
    refine lc_map (ups (rws L) r.a) (fun n => some (.bl (!decide ((stepOf (rws L) n r.b).getD (-1) = r.s + 1)))) (walk_map _ V.str) hD (small1830 (by omega)) (fun H2 s2 => SqL.of (s2 _ _ ec)) ?_ ?_
    · rintro j n x H2 H3 R N hn s2 ⟨rfl, hx⟩ hR hN
      obtain rfl := map_at hn hx
      refine ⟨rfl, _, rfl, p, _, dx, _, _, rfl, s2 _ _ (s1 _ _ h1), T.cJ, T.Jsteps, rfl, dS, rfl, .inr ⟨_, .inl (s2 _ _ (s1 _ _ e4))⟩, _, rfl, _, rfl, (by show 2 ≤ sizeLine; decide), fun t ht => ?_⟩
      have s3 : Same H3 (upd H3 t (.tup [.str n, .str r.b])) := Same.upd ht
      refine ⟨_, rfl, _, DGet.t (k := [Sum.inr n, Sum.inr r.b]) (s3 _ _ (s2 _ _ (s1 _ _ e4))) upd_same, _, rfl, _, _, rfl, rfl, ?_⟩
      rw [f4, getD_int]
      refine ⟨rfl, hR _ _ ?_ s3⟩
      rw [dInt]
    · intro H2 s2 e2
      refine ⟨D, _, rfl, SqL.of (by rw [e2, any_map]), ?_⟩
      have := k _ (s1.trans s2)
      have e : (((ups (rws L) r.a).map fun n => !decide ((stepOf (rws L) n r.b).getD (-1) = r.s + 1)).any id) = FR.jGap (rws L) r := by
        unfold FR.jGap
        rw [List.any_map] <;> rfl
      rw [e]
      exact this
theorem ok_jline (T : TX K mg) : DfX P w K mg base 2 dJLine ["self", "place"] (spPl K fun rs _ r => FR.jLine rs r) := by
  obtain ⟨fdU, GU⟩ := ok_jupper (P := P) (w := w) (base := base) T
  refine df_mk T 31 rfl (N := ["self", "place", "above", "below", "steps", "rank", "value", "other"]) ⟨rfl, rfl, rfl, by decide +kernel, rfl, by decide +kernel, by decide +kernel⟩ (fun _ _ _ _ _ _ us hl => match us, hl with | [_, _], _ => rfl) (fun vs H Q E h => ?_) (fun cdv A outer s H vs Q E hr h => ?_)
  · obtain ⟨p, i, L, r, rfl, _⟩ := h
    rfl
  · obtain ⟨p, i, L, r, rfl, J, hl, ho, hi, k⟩ := h
    have k : ∀ H', Same H H' → Q (.bl (FR.jLine (rws L) r)) H' := k
    have hu := hu_of hr
    have nd : (["self", "place", "above", "below", "steps", "rank", "value", "other"] : List Str).Nodup := by decide +kernel
    obtain ⟨dx, a, dS, dU, dR, dV, aS, dP, h1, h2, h3, ⟨kS, e4, l4, f4⟩, ⟨H0, h5⟩, h6, h7, h8, h9⟩ := J.ex
    obtain ⟨q, hq, eq⟩ := row_at h3 hi
    refine ⟨_, pss_cons (ps_asg (pe_ix ix_list (pe_fld (pv 0) rfl) (pv 1) (fun _ _ => rfl)) (pg_tup rfl (pgs_cons (pg_name (i := 2) nd rfl (Or.inr rfl)) (pgs_cons (pg_name (i := 3) nd rfl (Or.inl rfl)) (pgs_cons (pg_name (i := 4) nd rfl (Or.inr rfl)) (pgs_cons (pg_name (i := 5) nd rfl (Or.inl rfl)) (pgs_cons (pg_name (i := 6) nd rfl (Or.inl rfl)) pgs_nil)))))))
      (pss_cons (ps_if (pt_cmpR op_eq (pv 4) pe_int (nomark _)) (pss_one (ps_ret (pe_cmpR op_ne (pe_meth (pv 0) T.cJ T.mJupper GU.ok hr GU.b .nil pass0 (pa_cons (pv 3) pa_nil)) (pv 2) (nomark _)))) pss_nil)
      (pss_cons (ps_if (pt_cmpR op_eq (pv 4) pe_int (nomark _)) (pss_one (ps_ret pe_bl)) pss_nil)
      (pss_one (ps_ret (pe_not (pe_callB (cr_any rfl) (by rfl) T.any (by decide +kernel) (pa_cons (pe_lc (own := [("other", 7)]) (g := gName 7) (tt := tYes) rfl nd
      (pi_list (pe_dget2 hu (pe_fld (pv 0) rfl) (pv 3) (pe_lst pa_nil) ⟨rfl, rfl, rfl, rfl⟩)) (blkOk_by (N := ["self", "place", "above", "below", "steps", "rank", "value", "other"]) (sc := dJLine.scope) (by decide +kernel))
      (fun _ _ _ _ _ => pg_name (i := 7) nd rfl (Or.inl rfl)) (fun _ _ _ _ _ => pts_nil) (fun _ _ _ _ _ => pe_cmpR op_eq (pe_dget2 hu (pe_fldK K rfl (pv 0) rfl) (pe_tup (pa_cons (pv 2) (pa_cons (pv 7) pa_nil))) (pe_un un_neg pe_int) ⟨rfl, rfl, rfl, rfl⟩) (pe_op op_sub (pv 4) pe_int) (nomark _))) pa_nil))))))), ?_⟩
    refine ⟨_, rfl, p, _, dx, _, _, rfl, h1, T.cJ, T.Jrows, rfl, _, rfl, a, _, _, _, rfl, rfl, SqL.of h2, atI_nat hq, ?_⟩
    refine ⟨q, cells r, rfl, SqT.of eq, rfl, _, _, rfl, _, _, rfl, _, _, rfl, _, _, rfl, _, _, rfl, rfl, ?_⟩
    refine ⟨_, rfl, rfl, _, rfl, iteC (fun e => ?_) (fun e => ?_)⟩
    · have hs : r.s = 1 := V.int.inj e
      refine ⟨_, rfl, p, dx, _, rfl, h1, rfl, _, rfl, p, r.b, L, rfl, J, hl, fun H1 s1 => ?_⟩
      have := k _ s1
      have e2 : FR.jLine (rws L) r = !decide (uV (FR.parent (rws L) r.b) = V.str r.a) := by
        unfold FR.jLine
        rw [if_pos hs, show V.str r.a = uV (some r.a) from rfl, dUV]
      rw [e2] at this
      refine ⟨_, rfl, scal_uV _ (some r.a), this⟩
    · have hs : r.s ≠ 1 := fun z => e (by rw [z])
      refine ⟨_, rfl, rfl, _, rfl, iteC (fun e0 => ?_) (fun e0 => ?_)⟩
      · have hs0 : r.s = 0 := V.int.inj e0
        have := k _ (Same.refl H)
        have e2 : FR.jLine (rws L) r = false := by
          unfold FR.jLine
          rw [if_neg hs, if_pos hs0]
        rw [e2] at this
        exact this
      · have hs0 : r.s ≠ 0 := fun z => e0 (by rw [z])
        refine ⟨_, rfl, p, _, dx, _, _, rfl, h1, T.cJ, T.Juppers, rfl, dU, rfl, let ⟨_, e, _⟩ := h5; .inl ⟨_, .inl e⟩, _, rfl, (by show 0 ≤ sizeLine; decide), fun z hz => ?_⟩
        have s1 : Same H (upd H z (.lst [])) := Same.upd hz
        have ez : (upd H z (.lst [])) z = some (.lst []) := upd_same
        generalize upd H z (.lst []) = H1 at s1 ez ⊢
        obtain ⟨o, c, g, eo, ec⟩ := ups_get (K := K) (n := r.b) h5 s1 ez
        refine ⟨o, g, c, eo, ⟨_, SqL.of ec⟩, fun D hD => ?_⟩
        have hul := ups_len (rws L) r.b
        rw [rws_len] at hul
        refine lc_map (ups (rws L) r.b) (fun n => some (.bl (decide ((stepOf (rws L) r.a n).getD (-1) = r.s - 1)))) (walk_map _ V.str) hD (small1830 (by omega)) (fun H2 s2 => SqL.of (s2 _ _ ec)) ?_ ?_
        · rintro j n x H2 H3 R N hn s2 ⟨rfl, hx⟩ hR hN
          obtain rfl := map_at hn hx
          refine ⟨rfl, _, rfl, p, _, dx, _, _, rfl, s2 _ _ (s1 _ _ h1), T.cJ, T.Jsteps, rfl, dS, rfl, .inr ⟨_, .inl (s2 _ _ (s1 _ _ e4))⟩, _, rfl, _, rfl, (by show 2 ≤ sizeLine; decide), fun t ht => ?_⟩
          have s3 : Same H3 (upd H3 t (.tup [.str r.a, .str n])) := Same.upd ht
          refine ⟨_, rfl, _, DGet.t (k := [Sum.inr r.a, Sum.inr n]) (s3 _ _ (s2 _ _ (s1 _ _ e4))) upd_same, _, rfl, _, _, rfl, rfl, ?_⟩
          rw [f4, getD_int]
          refine ⟨rfl, hR _ _ ?_ s3⟩
          rw [dInt]
        · intro H2 s2 e2
          refine ⟨D, _, rfl, SqL.of (by rw [e2, any_map]), _, rfl, ?_⟩
          have := k _ (s1.trans s2)
          have e3 : FR.jLine (rws L) r = !(((ups (rws L) r.b).map fun n => decide ((stepOf (rws L) r.a n).getD (-1) = r.s - 1)).any id) := by
            unfold FR.jLine
            rw [if_neg hs, if_neg hs0, List.any_map] <;> rfl
          rw [e3] at this
          exact this
theorem ok_jorder (T : TX K mg) : DfX P w K mg base 2 dJOrder ["self", "place"] (spPl K fun rs i r => FR.jOrder rs i r) := by
  obtain ⟨fdU, GU⟩ := ok_jupper (P := P) (w := w) (base := base) T
  refine df_mk T 35 rfl (N := ["self", "place", "row", "parent", "siblings", "one"]) ⟨rfl, rfl, rfl, by decide +kernel, rfl, by decide +kernel, by decide +kernel⟩ (fun _ _ _ _ _ _ us hl => match us, hl with | [_, _], _ => rfl) (fun vs H Q E h => ?_) (fun cdv A outer s H vs Q E hr h => ?_)
  · obtain ⟨p, i, L, r, rfl, _⟩ := h
    rfl
  · obtain ⟨p, i, L, r, rfl, J, hl, ho, hi, k⟩ := h
    have k : ∀ H', Same H H' → Q (.bl (FR.jOrder (rws L) i r)) H' := k
    have hu := hu_of hr
    have nd : (["self", "place", "row", "parent", "siblings", "one"] : List Str).Nodup := by decide +kernel
    obtain ⟨dx, a, dS, dU, dR, dV, aS, dP, h1, h2, h3, h4, h5, h6, h7, h8, ⟨kP, e9, l9, f9⟩⟩ := J.ex
    obtain ⟨q, hq, eq⟩ := row_at h3 hi
    refine ⟨_, pss_cons (ps_set (i := 2) nd rfl (Or.inr rfl) (pe_ix ix_list (pe_fld (pv 0) rfl) (pv 1) (fun _ _ => rfl)))
      (pss_cons (ps_if (pt_cmpR op_ne (pe_ix ix_tup (pv 2) pe_int (fun _ _ => rfl)) pe_int (nomark _)) (pss_one (ps_ret pe_bl)) pss_nil)
      (pss_cons (ps_set (i := 3) nd rfl (Or.inr rfl) (pe_meth (pv 0) T.cJ T.mJupper GU.ok hr GU.b .nil pass0 (pa_cons (pe_ix ix_tup (pv 2) pe_int (fun _ _ => rfl)) pa_nil)))
      (pss_cons (ps_setLc (i := 4) (own := [("one", 5)]) (g := gName 5) rfl nd rfl rfl (sw_true rfl rfl rfl (by decide +kernel)) (pi_list (pe_fld (pv 0) rfl)) (blkOk_by (N := ["self", "place", "row", "parent", "siblings", "one"]) (sc := dJOrder.scope) (by decide +kernel))
          (fun _ _ _ _ _ => pg_name (i := 5) nd rfl (Or.inl rfl)) (fun _ _ _ _ _ => pts_one (pt_cmpR op_eq (pe_meth (pv 0) T.cJ T.mJupper GU.ok hr GU.b .nil pass0 (pa_cons (pe_ix (ix_tupK K rfl) (pv 5) pe_int (fun _ _ => rfl)) pa_nil)) (pv 3) (nomark _))) (fun _ _ _ _ _ => pv 5))
      (pss_cons (ps_if (pt_cmpR op_ge (pe_ix ix_tup (pv 2) pe_int (fun _ _ => rfl)) (pe_callB call_len_seq (by rfl) T.len PySem.boot_len (pa_cons (pv 4) pa_nil)) (nomark _)) (pss_one (ps_ret pe_bl)) pss_nil)
      (pss_one (ps_ret (pe_callB (cr_any rfl) (by rfl) T.any (by decide +kernel) (pa_cons (pe_lc (own := [("one", 5)]) (g := gName 5) (tt := tYes) rfl nd
        (pi_list (pv 4)) (blkOk_by (N := ["self", "place", "row", "parent", "siblings", "one"]) (sc := dJOrder.scope) (by decide +kernel))
        (fun _ _ _ _ _ => pg_name (i := 5) nd rfl (Or.inl rfl)) (fun _ _ _ _ _ => pts_nil) (fun _ _ _ _ _ => pe_and (pe_cmpR op_eq (pe_ix (ix_tupK K rfl) (pv 5) pe_int (fun _ _ => rfl)) (pe_ix (ix_tupK K rfl) (pv 2) pe_int (fun _ _ => rfl)) (nomark _))
          (pe_one (pe_cmpR op_lt (pe_dget hu (pe_fldK K rfl (pv 0) rfl) (pe_ix (ix_tupK K rfl) (pv 5) pe_int (fun _ _ => rfl)) (fun _ _ => rfl)) (pv 1) (nomark _))))) pa_nil)))))))), ?_⟩
    refine ⟨_, rfl, p, _, dx, _, _, rfl, h1, T.cJ, T.Jrows, rfl, _, rfl, a, _, _, _, rfl, rfl, SqL.of h2, atI_nat hq, ?_⟩
    refine ⟨_, rfl, q, cells r, 2, _, rfl, rfl, SqT.of eq, rfl, rfl, _, rfl, iteNC (fun e0 => ?_) (fun e0 => ?_)⟩
    · have hs0 : r.s ≠ 0 := fun z => e0 (by rw [z])
      have := k _ (Same.refl H)
      have e2 : FR.jOrder (rws L) i r = false := by
        unfold FR.jOrder
        rw [if_neg hs0]
      rw [e2] at this
      exact this
    · have hs0 : r.s = 0 := V.int.inj e0
      refine ⟨_, rfl, p, dx, _, rfl, h1, rfl, _, rfl, q, cells r, 0, _, rfl, rfl, SqT.of eq, rfl, p, r.a, L, rfl, J, hl, fun H1 s1 => ?_⟩
      refine ⟨_, rfl, p, _, dx, _, _, rfl, s1 _ _ h1, T.cJ, T.Jselves, rfl, aS, rfl, ⟨_, SqL.of (s1 _ _ h8)⟩, fun D hD => ?_⟩
      have hsl : (selves L).length ≤ 1830 := Nat.le_trans (List.length_filter_le _ _) hl
      refine lc_map (selves L) (fun q => if FR.parent (rws L) q.2.a = FR.parent (rws L) r.a then some (V.ref q.1) else none) (walk_map _ (fun q : Addr × Rw => V.ref q.1)) hD (small1830 (by omega)) (fun H2 s2 => SqL.of (s2 _ _ (s1 _ _ h8))) ?_ ?_
      · rintro j n x H2 H3 R N hn s2 ⟨rfl, hx⟩ hR hN
        obtain rfl := map_at hn hx
        have hm : n ∈ L := (List.mem_filter.mp (List.mem_of_getElem? hn)).1
        have hrow := s2 _ _ (s1 _ _ (h3 n hm))
        refine ⟨rfl, _, rfl, p, dx, _, rfl, s2 _ _ (s1 _ _ h1), rfl, _, rfl, n.1, cells n.2, 0, _, rfl, rfl, SqT.of hrow, rfl, p, n.2.a, L, rfl, (J.same s1).same s2, hl, fun H4 s4 => ?_⟩
        refine ⟨_, rfl, scal_uV _ _, _, rfl, ?_⟩
        rw [dUV]
        refine iteC (fun e => ?_) (fun e => ?_)
        · refine ⟨_, rfl, hR _ _ (if_pos e) s4⟩
        · exact hN _ (if_neg e) s4
      intro H2 s2 e2
      have ef : (selves L).filterMap (fun q => if FR.parent (rws L) q.2.a = FR.parent (rws L) r.a then some (V.ref q.1) else none) = refs ((selves L).filter fun q => decide (FR.parent (rws L) q.2.a = FR.parent (rws L) r.a)) := by
        exact filterMap_ite _ _ _
      rw [ef] at e2
      have ej : FR.jsibs (rws L) (FR.parent (rws L) r.a) = rws ((selves L).filter fun q => decide (FR.parent (rws L) q.2.a = FR.parent (rws L) r.a)) := by
        unfold FR.jsibs selves rws
        rw [List.filter_map, List.filter_map]
        rfl
      generalize hM : (selves L).filter (fun q => decide (FR.parent (rws L) q.2.a = FR.parent (rws L) r.a)) = M at e2 ej
      have hMl : M.length ≤ 1830 := by rw [← hM]; exact Nat.le_trans (List.length_filter_le _ _) hsl
      have hMs : ∀ n ∈ M, n ∈ L ∧ n.2.s = 0 := fun n hn => by
        rw [← hM] at hn
        have h1 := List.mem_filter.mp (List.mem_filter.mp hn).1
        exact ⟨h1.1, of_decide_eq_true h1.2⟩
      refine ⟨_, rfl, q, cells r, 3, _, rfl, rfl, SqT.of (s2 _ _ (s1 _ _ eq)), rfl, _, rfl, D, _, rfl, .inl (SqL.of e2), _, _, rfl, rfl, _, rfl, ?_⟩
      have ejo : FR.jOrder (rws L) i r = (decide ((M.length : Int) ≤ r.k) || M.any fun q => decide (q.2.k = r.k) && decide ((spot (rws L) q.2.a).getD 0 < i)) := by
        unfold FR.jOrder
        rw [if_pos hs0, ej, rws_len]
        congr 1
        unfold rws
        rw [List.any_map] <;> rfl
      rw [ejo] at k
      refine iteC (fun e => ?_) (fun e => ?_)
      · have e : (M.length : Int) ≤ r.k := by rw [refs_len] at e; exact e
        rw [decide_eq_true e] at k
        exact k _ (s1.trans s2)
      · have e : ¬ (M.length : Int) ≤ r.k := by rw [refs_len] at e; exact e
        rw [decide_eq_false e, Bool.false_or] at k
        refine ⟨_, rfl, D, rfl, ⟨_, SqL.of e2⟩, fun D2 hD2 => ?_⟩
        refine lc_map M (fun q => some (V.bl (decide (q.2.k = r.k) && decide ((spot (rws L) q.2.a).getD 0 < i)))) (walk_map _ (fun q : Addr × Rw => V.ref q.1)) hD2 (small1830 (by omega)) (fun H3 s3 => SqL.of (s3 _ _ e2)) ?_ ?_
        · rintro j n x H3 H4 R N hn s3 ⟨rfl, hx⟩ hR hN
          obtain rfl := map_at hn hx
          obtain ⟨hm, h0⟩ := hMs n (List.mem_of_getElem? hn)
          have hrow := s3 _ _ (s2 _ _ (s1 _ _ (h3 n hm)))
          obtain ⟨jj, hjj⟩ := List.mem_iff_getElem?.mp hm
          have hsp := FR.spot_at ho (show (rws L)[jj]? = some n.2 by unfold rws; rw [List.getElem?_map, hjj]; rfl) h0
          refine ⟨rfl, _, rfl, n.1, cells n.2, 3, _, rfl, rfl, SqT.of hrow, rfl, _, rfl, q, cells r, 3, _, rfl, rfl, SqT.of (s3 _ _ (s2 _ _ (s1 _ _ eq))), rfl, rfl, _, rfl, iteC (fun e1 => ?_) (fun e1 => ?_)⟩
          · have e1 : n.2.k = r.k := V.int.inj e1
            refine ⟨_, rfl, p, _, dx, _, _, rfl, s3 _ _ (s2 _ _ (s1 _ _ h1)), T.cJ, T.Jspots, rfl, _, rfl, n.1, cells n.2, 0, _, rfl, rfl, SqT.of hrow, rfl, dP, .int (jj : Nat), rfl, ?_, _, rfl, _, _, rfl, rfl, ?_⟩
            · have g := DGet.k (k := Sum.inr n.2.a) (s3 _ _ (s2 _ _ (s1 _ _ e9)))
              rw [f9, hsp] at g
              exact g
            · refine hR _ _ ?_ (Same.refl _)
              rw [hsp, decide_eq_true e1, Bool.true_and]
              show some (V.bl (decide (jj < i))) = some (V.bl (decide ((jj : Int) < (i : Int))))
              congr 2
              rw [Bool.eq_iff_iff]
              simp
          · have e1 : ¬ n.2.k = r.k := fun z => e1 (by rw [z])
            refine hR _ _ ?_ (Same.refl _)
            rw [decide_eq_false e1, Bool.false_and]
        · intro H3 s3 e3
          refine ⟨D2, _, rfl, SqL.of (by rw [e3, any_map]), ?_⟩
          have := k _ ((s1.trans s2).trans s3)
          rw [List.any_map]
          exact this
end
end KW
end

section
set_option Elab.async false
set_option linter.all false
set_option maxRecDepth 100000
set_option maxHeartbeats 4000000
/-! PairJudge.fault. -/
namespace KW
open PySem PySem.Spec PyProof.Rows L2 KR
open FR (Ok Rows stepOf rankOf valueOf spot ups)
def wordOf (w : Nat) : Str := if w = 0 then "self" else if w = 1 then "line" else if w = 2 then "gap" else if w = 3 then "ranks" else if w = 4 then "values" else "order"
theorem wordOf_ok (w : Nat) : PyData.strOk (wordOf w) = true := by
  unfold wordOf
  repeat' split
  all_goals decide +kernel
/-- what the judge tells -/
def ToldAt (K : PySem.W.Frag) (H : Hp) (x : V) : Option (Nat × Nat) → Prop
  | none => x = .non
  | some (i, w) => ∃ f : Addr, x = .ref f ∧ FaultAt K H f (i : Nat) (wordOf w)
theorem ToldAt.same {K : PySem.W.Frag} {H H' : Hp} {x : V} {o : Option (Nat × Nat)} (h : ToldAt K H x o) (s : Same H H') : ToldAt K H' x o := by
  cases o with
  | none => exact h
  | some q =>
    obtain ⟨f, e, h⟩ := h
    exact ⟨f, e, h.same s⟩
section
variable {P : Program} {w : World} {K : PySem.W.Frag} {mg : Str → Option Value} {base : Heap}
def spJFault (K : PySem.W.Frag) : Sp := fun vs H Q _ => ∃ (p : Addr) (L : RL), vs = [.ref p] ∧ JudgeAt K H p L ∧ L.length ≤ 1830 ∧ Ok (rws L) ∧ ∀ x H', Same H H' → ToldAt K H' x (FR.judged (rws L)) → Q x H'
theorem ok_jfault (T : TX K mg) : DfX P w K mg base 3 dJFault ["self"] (spJFault K) := by
  obtain ⟨fdGS, GS⟩ := ok_jself (P := P) (w := w) (base := base) T
  obtain ⟨fdGL, GL⟩ := ok_jline (P := P) (w := w) (base := base) T
  obtain ⟨fdGG, GG⟩ := ok_jgap (P := P) (w := w) (base := base) T
  obtain ⟨fdGR, GR⟩ := ok_jrank (P := P) (w := w) (base := base) T
  obtain ⟨fdGV, GV⟩ := ok_jvalue (P := P) (w := w) (base := base) T
  obtain ⟨fdGO, GO⟩ := ok_jorder (P := P) (w := w) (base := base) T
  obtain ⟨fdI, GI⟩ := ok_finit (P := P) (w := w) (base := base) T
  refine df_mk T 36 rfl (N := ["self", "place"]) ⟨rfl, rfl, rfl, by decide +kernel, rfl, by decide +kernel, by decide +kernel⟩ (fun _ _ _ _ _ _ us hl => match us, hl with | [_], _ => rfl) (fun vs H Q E h => ?_) (fun cdv A outer s H vs Q E hr h => ?_)
  · obtain ⟨p, L, rfl, _⟩ := h
    rfl
  · obtain ⟨p, L, rfl, J, hl, ho, k⟩ := h
    have nd : (["self", "place"] : List Str).Nodup := by decide +kernel
    have hrl : (rws L).length = L.length := rws_len L
    have hr1 := hr.mono (j := 1) (by decide)
    have rowAt : ∀ i, i < L.length → ∃ r, (rws L)[i]? = some r := fun i hi => ⟨_, List.getElem?_eq_getElem (by rw [hrl]; exact hi)⟩
    obtain ⟨dx, a, dS, dU, dR, dV, aS, dP, h1, h2, _⟩ := J.ex
    refine ⟨_, pss_cons (ps_for PassesOwn.never rfl (pi_range1 (by rfl) T.range (pa_cons (pe_callB call_len_seq (by rfl) T.len PySem.boot_len (pa_cons (pe_fld (pv 0) rfl) pa_nil)) pa_nil)) (pg_name (i := 1) nd rfl (Or.inl rfl))
        (pss_one (ps_if (pt_val (pe_meth (pv 0) T.cJ T.mJself GS.ok hr1 GS.b .nil pass0 (pa_cons (pv 1) pa_nil))) (pss_one (ps_ret (pe_make T.kF GI.ok hr rfl (T.gl 1 _ rfl) GI.b .nil pass0 (pa_cons (pv 1) (pa_cons pe_str pa_nil))))) pss_nil)))
      (pss_cons (ps_for PassesOwn.never rfl (pi_range1 (by rfl) T.range (pa_cons (pe_callB call_len_seq (by rfl) T.len PySem.boot_len (pa_cons (pe_fld (pv 0) rfl) pa_nil)) pa_nil)) (pg_name (i := 1) nd rfl (Or.inl rfl))
        (pss_one (ps_if (pt_val (pe_meth (pv 0) T.cJ T.mJline GL.ok hr GL.b .nil pass0 (pa_cons (pv 1) pa_nil))) (pss_one (ps_ret (pe_make T.kF GI.ok hr rfl (T.gl 1 _ rfl) GI.b .nil pass0 (pa_cons (pv 1) (pa_cons pe_str pa_nil))))) pss_nil)))
      (pss_cons (ps_for PassesOwn.never rfl (pi_range1 (by rfl) T.range (pa_cons (pe_callB call_len_seq (by rfl) T.len PySem.boot_len (pa_cons (pe_fld (pv 0) rfl) pa_nil)) pa_nil)) (pg_name (i := 1) nd rfl (Or.inl rfl))
        (pss_one (ps_if (pt_val (pe_meth (pv 0) T.cJ T.mJgap GG.ok hr1 GG.b .nil pass0 (pa_cons (pv 1) pa_nil))) (pss_one (ps_ret (pe_make T.kF GI.ok hr rfl (T.gl 1 _ rfl) GI.b .nil pass0 (pa_cons (pv 1) (pa_cons pe_str pa_nil))))) pss_nil)))
      (pss_cons (ps_for PassesOwn.never rfl (pi_range1 (by rfl) T.range (pa_cons (pe_callB call_len_seq (by rfl) T.len PySem.boot_len (pa_cons (pe_fld (pv 0) rfl) pa_nil)) pa_nil)) (pg_name (i := 1) nd rfl (Or.inl rfl))
        (pss_one (ps_if (pt_val (pe_meth (pv 0) T.cJ T.mJrank GR.ok hr1 GR.b .nil pass0 (pa_cons (pv 1) pa_nil))) (pss_one (ps_ret (pe_make T.kF GI.ok hr rfl (T.gl 1 _ rfl) GI.b .nil pass0 (pa_cons (pv 1) (pa_cons pe_str pa_nil))))) pss_nil)))
      (pss_cons (ps_for PassesOwn.never rfl (pi_range1 (by rfl) T.range (pa_cons (pe_callB call_len_seq (by rfl) T.len PySem.boot_len (pa_cons (pe_fld (pv 0) rfl) pa_nil)) pa_nil)) (pg_name (i := 1) nd rfl (Or.inl rfl))
        (pss_one (ps_if (pt_val (pe_meth (pv 0) T.cJ T.mJvalue GV.ok hr1 GV.b .nil pass0 (pa_cons (pv 1) pa_nil))) (pss_one (ps_ret (pe_make T.kF GI.ok hr rfl (T.gl 1 _ rfl) GI.b .nil pass0 (pa_cons (pv 1) (pa_cons pe_str pa_nil))))) pss_nil)))
      (pss_cons (ps_for PassesOwn.never rfl (pi_range1 (by rfl) T.range (pa_cons (pe_callB call_len_seq (by rfl) T.len PySem.boot_len (pa_cons (pe_fld (pv 0) rfl) pa_nil)) pa_nil)) (pg_name (i := 1) nd rfl (Or.inl rfl))
        (pss_one (ps_if (pt_val (pe_meth (pv 0) T.cJ T.mJorder GO.ok hr GO.b .nil pass0 (pa_cons (pv 1) pa_nil))) (pss_one (ps_ret (pe_make T.kF GI.ok hr rfl (T.gl 1 _ rfl) GI.b .nil pass0 (pa_cons (pv 1) (pa_cons pe_str pa_nil))))) pss_nil)))
      (pss_one (ps_ret pe_non))))))), ?_⟩
    have s0 : Same H H := Same.refl H
    have w0 : ∀ v, v < 0 → FR.firstAt (FR.jWrong v (rws L)) (rws L) = none := fun v h => absurd h (Nat.not_lt_zero _)
    -- self
    refine ⟨_, rfl, p, _, dx, _, _, rfl, s0 _ _ h1, T.cJ, T.Jrows, rfl, a, _, rfl, .inl (SqL.of (s0 _ _ h2)), ((refs L).length : Int), rfl, (by rw [refs_len]; omega), (by rw [refs_len]; omega), ?_⟩
    refine for_range (lo := 0) (n := (refs L).length) (fun i σ H' => (∃ v, σ = [some (.ref p), v]) ∧ Same H H' ∧ ∀ j r, j < i → (rws L)[j]? = some r → FR.jWrong 0 (rws L) j r = false) ⟨⟨_, rfl⟩, s0, fun j r h => absurd h (Nat.not_lt_zero _)⟩ ?_ ?_
    · rintro i σ H6 hi ⟨⟨v, rfl⟩, s6, f6⟩
      rw [refs_len] at hi
      obtain ⟨r, er⟩ := rowAt i hi
      refine ⟨_, rfl, p, dx, _, rfl, s6 _ _ h1, rfl, _, rfl, p, i, L, r, (by rw [Int.zero_add]; rfl), J.same s6, hl, ho, er, fun H7 s7 => ?_⟩
      refine ⟨_, rfl, ?_⟩
      cases e : FR.jWrong 0 (rws L) i r with
      | true =>
        have e2 : FR.judged (rws L) = some (i, 0) := FR.firstOf_some (by decide) w0 (FR.firstAt_some f6 er e)
        rw [e2] at k
        refine cast_if (b := true) e ?_ 
        refine ⟨_, rfl, fun x dx' nx ndx nex => ⟨x, dx', _, _, rfl, upd_same, fun H8 F8 b8 => ⟨rfl, ?_⟩⟩⟩
        rw [Int.zero_add] at F8
        exact k _ _ ((s6.trans s7).trans (Same.made nx ndx b8)) ⟨x, rfl, F8⟩
      | false =>
        refine cast_if (b := false) e ?_
        refine ⟨⟨_, rfl⟩, s6.trans s7, fun j q hj hq => ?_⟩
        by_cases z : j = i
        · subst z
          rw [er] at hq
          cases hq
          exact e
        · exact f6 j q (by omega) hq
    rintro σ H1 ⟨⟨v, rfl⟩, s1, f1⟩
    rw [refs_len] at f1
    have w1 : ∀ v, v < 1 → FR.firstAt (FR.jWrong v (rws L)) (rws L) = none := fun v hv => by
      by_cases z : v = 0
      · subst z
        exact FR.firstAt_none fun j r e => f1 j r (by have := (List.getElem?_eq_some_iff.mp e).1; omega) e
      · exact w0 v (by omega)
    -- line
    refine ⟨_, rfl, p, _, dx, _, _, rfl, s1 _ _ h1, T.cJ, T.Jrows, rfl, a, _, rfl, .inl (SqL.of (s1 _ _ h2)), ((refs L).length : Int), rfl, (by rw [refs_len]; omega), (by rw [refs_len]; omega), ?_⟩
    refine for_range (lo := 0) (n := (refs L).length) (fun i σ H' => (∃ v, σ = [some (.ref p), v]) ∧ Same H H' ∧ ∀ j r, j < i → (rws L)[j]? = some r → FR.jWrong 1 (rws L) j r = false) ⟨⟨_, rfl⟩, s1, fun j r h => absurd h (Nat.not_lt_zero _)⟩ ?_ ?_
    · rintro i σ H6 hi ⟨⟨v, rfl⟩, s6, f6⟩
      rw [refs_len] at hi
      obtain ⟨r, er⟩ := rowAt i hi
      refine ⟨_, rfl, p, dx, _, rfl, s6 _ _ h1, rfl, _, rfl, p, i, L, r, (by rw [Int.zero_add]; rfl), J.same s6, hl, ho, er, fun H7 s7 => ?_⟩
      refine ⟨_, rfl, ?_⟩
      cases e : FR.jWrong 1 (rws L) i r with
      | true =>
        have e2 : FR.judged (rws L) = some (i, 1) := FR.firstOf_some (by decide) w1 (FR.firstAt_some f6 er e)
        rw [e2] at k
        refine cast_if (b := true) e ?_ 
        refine ⟨_, rfl, fun x dx' nx ndx nex => ⟨x, dx', _, _, rfl, upd_same, fun H8 F8 b8 => ⟨rfl, ?_⟩⟩⟩
        rw [Int.zero_add] at F8
        exact k _ _ ((s6.trans s7).trans (Same.made nx ndx b8)) ⟨x, rfl, F8⟩
      | false =>
        refine cast_if (b := false) e ?_
        refine ⟨⟨_, rfl⟩, s6.trans s7, fun j q hj hq => ?_⟩
        by_cases z : j = i
        · subst z
          rw [er] at hq
          cases hq
          exact e
        · exact f6 j q (by omega) hq
    rintro σ H2 ⟨⟨v, rfl⟩, s2, f2⟩
    rw [refs_len] at f2
    have w2 : ∀ v, v < 2 → FR.firstAt (FR.jWrong v (rws L)) (rws L) = none := fun v hv => by
      by_cases z : v = 1
      · subst z
        exact FR.firstAt_none fun j r e => f2 j r (by have := (List.getElem?_eq_some_iff.mp e).1; omega) e
      · exact w1 v (by omega)
    -- gap
    refine ⟨_, rfl, p, _, dx, _, _, rfl, s2 _ _ h1, T.cJ, T.Jrows, rfl, a, _, rfl, .inl (SqL.of (s2 _ _ h2)), ((refs L).length : Int), rfl, (by rw [refs_len]; omega), (by rw [refs_len]; omega), ?_⟩
    refine for_range (lo := 0) (n := (refs L).length) (fun i σ H' => (∃ v, σ = [some (.ref p), v]) ∧ Same H H' ∧ ∀ j r, j < i → (rws L)[j]? = some r → FR.jWrong 2 (rws L) j r = false) ⟨⟨_, rfl⟩, s2, fun j r h => absurd h (Nat.not_lt_zero _)⟩ ?_ ?_
    · rintro i σ H6 hi ⟨⟨v, rfl⟩, s6, f6⟩
      rw [refs_len] at hi
      obtain ⟨r, er⟩ := rowAt i hi
      refine ⟨_, rfl, p, dx, _, rfl, s6 _ _ h1, rfl, _, rfl, p, i, L, r, (by rw [Int.zero_add]; rfl), J.same s6, hl, ho, er, fun H7 s7 => ?_⟩
      refine ⟨_, rfl, ?_⟩
      cases e : FR.jWrong 2 (rws L) i r with
      | true =>
        have e2 : FR.judged (rws L) = some (i, 2) := FR.firstOf_some (by decide) w2 (FR.firstAt_some f6 er e)
        rw [e2] at k
        refine cast_if (b := true) e ?_ 
        refine ⟨_, rfl, fun x dx' nx ndx nex => ⟨x, dx', _, _, rfl, upd_same, fun H8 F8 b8 => ⟨rfl, ?_⟩⟩⟩
        rw [Int.zero_add] at F8
        exact k _ _ ((s6.trans s7).trans (Same.made nx ndx b8)) ⟨x, rfl, F8⟩
      | false =>
        refine cast_if (b := false) e ?_
        refine ⟨⟨_, rfl⟩, s6.trans s7, fun j q hj hq => ?_⟩
        by_cases z : j = i
        · subst z
          rw [er] at hq
          cases hq
          exact e
        · exact f6 j q (by omega) hq
    rintro σ H3 ⟨⟨v, rfl⟩, s3, f3⟩
    rw [refs_len] at f3
    have w3 : ∀ v, v < 3 → FR.firstAt (FR.jWrong v (rws L)) (rws L) = none := fun v hv => by
      by_cases z : v = 2
      · subst z
        exact FR.firstAt_none fun j r e => f3 j r (by have := (List.getElem?_eq_some_iff.mp e).1; omega) e
      · exact w2 v (by omega)
    -- ranks
    refine ⟨_, rfl, p, _, dx, _, _, rfl, s3 _ _ h1, T.cJ, T.Jrows, rfl, a, _, rfl, .inl (SqL.of (s3 _ _ h2)), ((refs L).length : Int), rfl, (by rw [refs_len]; omega), (by rw [refs_len]; omega), ?_⟩
    refine for_range (lo := 0) (n := (refs L).length) (fun i σ H' => (∃ v, σ = [some (.ref p), v]) ∧ Same H H' ∧ ∀ j r, j < i → (rws L)[j]? = some r → FR.jWrong 3 (rws L) j r = false) ⟨⟨_, rfl⟩, s3, fun j r h => absurd h (Nat.not_lt_zero _)⟩ ?_ ?_
    · rintro i σ H6 hi ⟨⟨v, rfl⟩, s6, f6⟩
      rw [refs_len] at hi
      obtain ⟨r, er⟩ := rowAt i hi
      refine ⟨_, rfl, p, dx, _, rfl, s6 _ _ h1, rfl, _, rfl, p, i, L, r, (by rw [Int.zero_add]; rfl), J.same s6, hl, ho, er, fun H7 s7 => ?_⟩
      refine ⟨_, rfl, ?_⟩
      cases e : FR.jWrong 3 (rws L) i r with
      | true =>
        have e2 : FR.judged (rws L) = some (i, 3) := FR.firstOf_some (by decide) w3 (FR.firstAt_some f6 er e)
        rw [e2] at k
        refine cast_if (b := true) e ?_ 
        refine ⟨_, rfl, fun x dx' nx ndx nex => ⟨x, dx', _, _, rfl, upd_same, fun H8 F8 b8 => ⟨rfl, ?_⟩⟩⟩
        rw [Int.zero_add] at F8
        exact k _ _ ((s6.trans s7).trans (Same.made nx ndx b8)) ⟨x, rfl, F8⟩
      | false =>
        refine cast_if (b := false) e ?_
        refine ⟨⟨_, rfl⟩, s6.trans s7, fun j q hj hq => ?_⟩
        by_cases z : j = i
        · subst z
          rw [er] at hq
          cases hq
          exact e
        · exact f6 j q (by omega) hq
    rintro σ H4 ⟨⟨v, rfl⟩, s4, f4⟩
    rw [refs_len] at f4
    have w4 : ∀ v, v < 4 → FR.firstAt (FR.jWrong v (rws L)) (rws L) = none := fun v hv => by
      by_cases z : v = 3
      · subst z
        exact FR.firstAt_none fun j r e => f4 j r (by have := (List.getElem?_eq_some_iff.mp e).1; omega) e
      · exact w3 v (by omega)
    -- values
    refine ⟨_, rfl, p, _, dx, _, _, rfl, s4 _ _ h1, T.cJ, T.Jrows, rfl, a, _, rfl, .inl (SqL.of (s4 _ _ h2)), ((refs L).length : Int), rfl, (by rw [refs_len]; omega), (by rw [refs_len]; omega), ?_⟩
    refine for_range (lo := 0) (n := (refs L).length) (fun i σ H' => (∃ v, σ = [some (.ref p), v]) ∧ Same H H' ∧ ∀ j r, j < i → (rws L)[j]? = some r → FR.jWrong 4 (rws L) j r = false) ⟨⟨_, rfl⟩, s4, fun j r h => absurd h (Nat.not_lt_zero _)⟩ ?_ ?_
    · rintro i σ H6 hi ⟨⟨v, rfl⟩, s6, f6⟩
      rw [refs_len] at hi
      obtain ⟨r, er⟩ := rowAt i hi
      refine ⟨_, rfl, p, dx, _, rfl, s6 _ _ h1, rfl, _, rfl, p, i, L, r, (by rw [Int.zero_add]; rfl), J.same s6, hl, ho, er, fun H7 s7 => ?_⟩
      refine ⟨_, rfl, ?_⟩
      cases e : FR.jWrong 4 (rws L) i r with
      | true =>
        have e2 : FR.judged (rws L) = some (i, 4) := FR.firstOf_some (by decide) w4 (FR.firstAt_some f6 er e)
        rw [e2] at k
        refine cast_if (b := true) e ?_ 
        refine ⟨_, rfl, fun x dx' nx ndx nex => ⟨x, dx', _, _, rfl, upd_same, fun H8 F8 b8 => ⟨rfl, ?_⟩⟩⟩
        rw [Int.zero_add] at F8
        exact k _ _ ((s6.trans s7).trans (Same.made nx ndx b8)) ⟨x, rfl, F8⟩
      | false =>
        refine cast_if (b := false) e ?_
        refine ⟨⟨_, rfl⟩, s6.trans s7, fun j q hj hq => ?_⟩
        by_cases z : j = i
        · subst z
          rw [er] at hq
          cases hq
          exact e
        · exact f6 j q (by omega) hq
    rintro σ H5 ⟨⟨v, rfl⟩, s5, f5⟩
    rw [refs_len] at f5
    have w5 : ∀ v, v < 5 → FR.firstAt (FR.jWrong v (rws L)) (rws L) = none := fun v hv => by
      by_cases z : v = 4
      · subst z
        exact FR.firstAt_none fun j r e => f5 j r (by have := (List.getElem?_eq_some_iff.mp e).1; omega) e
      · exact w4 v (by omega)
    -- order
    refine ⟨_, rfl, p, _, dx, _, _, rfl, s5 _ _ h1, T.cJ, T.Jrows, rfl, a, _, rfl, .inl (SqL.of (s5 _ _ h2)), ((refs L).length : Int), rfl, (by rw [refs_len]; omega), (by rw [refs_len]; omega), ?_⟩
    refine for_range (lo := 0) (n := (refs L).length) (fun i σ H' => (∃ v, σ = [some (.ref p), v]) ∧ Same H H' ∧ ∀ j r, j < i → (rws L)[j]? = some r → FR.jWrong 5 (rws L) j r = false) ⟨⟨_, rfl⟩, s5, fun j r h => absurd h (Nat.not_lt_zero _)⟩ ?_ ?_
    · rintro i σ H6 hi ⟨⟨v, rfl⟩, s6, f6⟩
      rw [refs_len] at hi
      obtain ⟨r, er⟩ := rowAt i hi
      refine ⟨_, rfl, p, dx, _, rfl, s6 _ _ h1, rfl, _, rfl, p, i, L, r, (by rw [Int.zero_add]; rfl), J.same s6, hl, ho, er, fun H7 s7 => ?_⟩
      refine ⟨_, rfl, ?_⟩
      cases e : FR.jWrong 5 (rws L) i r with
      | true =>
        have e2 : FR.judged (rws L) = some (i, 5) := FR.firstOf_some (by decide) w5 (FR.firstAt_some f6 er e)
        rw [e2] at k
        refine cast_if (b := true) e ?_ 
        refine ⟨_, rfl, fun x dx' nx ndx nex => ⟨x, dx', _, _, rfl, upd_same, fun H8 F8 b8 => ⟨rfl, ?_⟩⟩⟩
        rw [Int.zero_add] at F8
        exact k _ _ ((s6.trans s7).trans (Same.made nx ndx b8)) ⟨x, rfl, F8⟩
      | false =>
        refine cast_if (b := false) e ?_
        refine ⟨⟨_, rfl⟩, s6.trans s7, fun j q hj hq => ?_⟩
        by_cases z : j = i
        · subst z
          rw [er] at hq
          cases hq
          exact e
        · exact f6 j q (by omega) hq
    rintro σ H6 ⟨⟨v, rfl⟩, s6, f6⟩
    rw [refs_len] at f6
    have w6 : ∀ v, v < 6 → FR.firstAt (FR.jWrong v (rws L)) (rws L) = none := fun v hv => by
      by_cases z : v = 5
      · subst z
        exact FR.firstAt_none fun j r e => f6 j r (by have := (List.getElem?_eq_some_iff.mp e).1; omega) e
      · exact w5 v (by omega)
    have e2 : FR.judged (rws L) = none := FR.firstOf_none w6
    rw [e2] at k
    exact k _ _ s6 rfl
end
end KW
end

section
set_option Elab.async false
set_option linter.all false
set_option maxRecDepth 100000
set_option maxHeartbeats 4000000
/-! pair_word. Rows as lists or tuples. -/
namespace KW
open PySem PySem.Spec PyProof.Rows L2 KR
open FR (Ok Rows stepOf rankOf valueOf spot ups)
/-- a list (true), a tuple (false) -/
def sq (b : Bool) (xs : List V) : HO := match b with
  | true => .lst xs
  | false => .tup xs
theorem sq_or {K : PySem.W.Frag} {H : Hp} {a : Addr} {b : Bool} {xs : List V} (h : H a = some (sq b xs)) : SqL K H a xs ∨ SqT K H a xs := by
  cases b with
  | true => exact .inl (SqL.of h)
  | false => exact .inr (SqT.of h)
theorem sq_raw {H : Hp} {a : Addr} {b : Bool} {xs : List V} (h : H a = some (sq b xs)) : (∃ xs, H a = some (.lst xs)) ∨ (∃ xs, H a = some (.tup xs)) := by
  cases b with
  | true => exact .inl ⟨_, h⟩
  | false => exact .inr ⟨_, h⟩
theorem sq_ne_dK {b : Bool} {xs : List V} {kvs : List (Key × V)} : sq b xs ≠ .dK kvs := by cases b <;> intro z <;> cases z
theorem sq_ne_dT {b : Bool} {xs : List V} {kvs : List (List Key × V)} : sq b xs ≠ .dT kvs := by cases b <;> intro z <;> cases z
/-- one of three: xs[i] -/
theorem ix_of {K : PySem.W.Frag} {H : Hp} {a : Addr} {b : Bool} {xs : List V} {i : Int} {v : V} {Q : VK} (h : H a = some (sq b xs)) (hi : atI xs i = some v) (q : Q v H) : rIx K (.ref a) (.int i) H Q := by
  cases b with
  | true => exact .inl ⟨a, xs, i, v, rfl, rfl, SqL.of h, hi, q⟩
  | false => exact .inr (.inl ⟨a, xs, i, v, rfl, rfl, SqT.of h, hi, q⟩)
theorem iseq_of {K : PySem.W.Frag} {H : Hp} {a : Addr} {b : Bool} {xs : List V} {R : It → Hp → Prop} (h : H a = some (sq b xs)) (k : ∀ J, Walk J xs.length (fun H => H a = some (sq b xs)) (YAt xs) → R J H) :
    ((∃ xs, SqL K H a xs) ∧ R (Itl K a) H) ∨ ((∃ xs, SqT K H a xs) ∧ R (Itt K a) H) := by
  cases b with
  | true => exact .inl ⟨⟨_, SqL.of h⟩, k _ (walk_list.mono (fun H h => SqL.of h) fun i H x H' _ _ y => y)⟩
  | false => exact .inr ⟨⟨_, SqT.of h⟩, k _ (walk_tup.mono (fun H h => SqT.of h) fun i H x H' _ _ y => y)⟩
theorem enum_of {K : PySem.W.Frag} {H : Hp} {a : Addr} {b : Bool} {xs : List V} {R : It → Hp → Prop} (h : H a = some (sq b xs)) (k : ∀ J, Walk J xs.length (fun H => H a = some (sq b xs)) (YPair (fun i => some (.int (i : Nat))) (fun i => xs[i]?)) → R J H) :
    ∃ (c : Addr) (ys : List V), [V.ref a] = [.ref c] ∧ ((SqL K H c ys ∧ R (Ite K c) H) ∨ (SqT K H c ys ∧ R (Itet K c) H)) := by
  cases b with
  | true => exact ⟨a, xs, rfl, .inl ⟨SqL.of h, k _ (walk_enum.mono (fun H h => SqL.of h) fun i H x H' _ _ y => y)⟩⟩
  | false => exact ⟨a, xs, rfl, .inr ⟨SqT.of h, k _ (walk_enumT.mono (fun H h => SqT.of h) fun i H x H' _ _ y => y)⟩⟩
/-- enumerate of a list or a tuple, its turns by Walk -/
def iEnumW (ta : TA) : TI := fun σ H R => ta σ H fun vs H1 => ∃ a b xs, vs = [.ref a] ∧ H1 a = some (sq b xs) ∧ ∀ J, Walk J xs.length (fun H => H a = some (sq b xs)) (YPair (fun i => some (.int (i : Nat))) (fun i => xs[i]?)) → R J H1
theorem pi_enumW {X : Cx} {e : Expr} {ta : TA} {p pos tpos : Pos} {elts : List Expr} {kk : Nat} (hg : Gl X "enumerate") (hm : X.mg "enumerate" = none) (ha : PA X [e] ta) (hs : starEach [e] X.env = [(false, eval e X.env)] := by rfl) :
    PI X (.Tuple elts kk tpos) (.Call (.Name "enumerate" p) [e] [] pos) (iEnumW ta) := by
  refine ⟨fun pins s σ H R I h => ?_⟩
  refine Call_ (ld_blt I hg hm boot_enumerate (PyProof.Rows.callWith_type1 (thn (ha.run pos pins s σ H _ I h) fun us s1 ⟨vs, H1, I1, r1, q1⟩ => ?_) hs rfl))
  obtain ⟨a, b, xs, ex, hq0, kq⟩ := q1
  subst ex
  obtain ⟨c, ys, ec, q⟩ := enum_of (K := X.K) (R := R) hq0 kq
  cases ec
  revert q
  generalize ys = xs
  intro q
  obtain ⟨u, rfl, ru⟩ := vals1 r1
  obtain rfl : u = Value.ref a := ru
  have two : ∀ b ∈ [s1.heap.objs.size + 1, s1.heap.objs.size], FpOk X pins H1 b := fun b hb => by
    have le : s1.heap.objs.size ≤ b := by
      rcases (show b = s1.heap.objs.size + 1 ∨ b = s1.heap.objs.size by simpa using hb) with z | z
      · rw [z]; exact Nat.le_add_right _ _
      · rw [z]; exact Nat.le_refl _
    exact I1.fpOk le (I1.hok.fresh le)
  rcases q with ⟨hq, q⟩ | ⟨hq, q⟩
  · obtain ⟨its, rv, p', hz⟩ := I1.list hq
    refine call_enumerate_list p'.isList fun h' he hit hsz hk => wpAny_pyIter_enum he ?_
    exact ⟨s1.heap.objs.size + 1, [s1.heap.objs.size + 1, s1.heap.objs.size], _, _, H1, rfl, I1.kept (t' := s1.toks) hk, turn_enum a (s1.heap.objs.size + 1) s1.heap.objs.size, ⟨⟨.none, he⟩, hit, Nat.succ_ne_self _⟩, two, q⟩
  · obtain ⟨its, rv, p', hz⟩ := I1.tuple hq
    refine call_enum1 (begins_tuple a its.toArray) (show s1.heap.IsTuple a its.toArray from p') fun h' he hit hsz hk => wpAny_pyIter_enum he ?_
    exact ⟨s1.heap.objs.size + 1, [s1.heap.objs.size + 1, s1.heap.objs.size], _, _, H1, rfl, I1.kept (t' := s1.toks) hk, turn_enumT a (s1.heap.objs.size + 1) s1.heap.objs.size, ⟨⟨.none, he⟩, ⟨_, hit, rfl, rfl⟩, Nat.succ_ne_self _⟩, two, q⟩
/-- a list or a tuple walked, its turns by Walk -/
def iSeqW (tl : TE) : TI := fun σ H R => tl σ H fun x H1 => ∃ a b xs, x = .ref a ∧ H1 a = some (sq b xs) ∧ ∀ J, Walk J xs.length (fun H => H a = some (sq b xs)) (YAt xs) → R J H1
section
variable {X : Cx}
theorem pi_seqW {tg l : Expr} {tl : TE} (hl : PE X l tl) : PI X tg l (iSeqW tl) := by
  refine ⟨fun pins s σ H R I h => ?_⟩
  refine thn (hl.run pins s σ H _ I h) fun v s1 ⟨x, H1, I1, r1, a, b, xs0, e, hq0, kq⟩ => ?_
  subst e
  have q1 := iseq_of (K := X.K) (R := R) hq0 kq
  rcases q1 with ⟨hq, q⟩ | ⟨hq, q⟩
  · cases r1
    obtain ⟨xs, hq⟩ := hq
    obtain ⟨its, rv, p, hz⟩ := I1.list hq
    refine wpAny_pyIter_list p.isList ?_
    refine ⟨s1.heap.objs.size, [s1.heap.objs.size], _, _, H1, rfl, I1.kept (t' := s1.toks) fun b o e => Heap.get?_push_of_some _ e, turn_list a _, ⟨_, Heap.get?_push_size _ rfl, rfl, rfl⟩, fun b hb => ?_, q⟩
    rw [List.mem_singleton.mp hb]
    exact I1.fpOk (Nat.le_refl _) (I1.hok.fresh (Nat.le_refl _))
  · cases r1
    obtain ⟨xs, hq⟩ := hq
    obtain ⟨its, rv, p, hz⟩ := I1.tuple hq
    refine wpAny_pyIter_tuple (show s1.heap.IsTuple a its.toArray from p) ?_
    refine ⟨s1.heap.objs.size, [s1.heap.objs.size], _, _, H1, rfl, I1.kept (t' := s1.toks) fun b o e => Heap.get?_push_of_some _ e, turn_tuple a _, ⟨_, Heap.get?_push_size _ rfl, rfl, rfl⟩, fun b hb => ?_, q⟩
    rw [List.mem_singleton.mp hb]
    exact I1.fpOk (Nat.le_refl _) (I1.hok.fresh (Nat.le_refl _))
end
/-- a row by itself -/
structure RowS (r : Rw) : Prop where
  a : NameOk r.a
  b : NameOk r.b
  s0 : 0 ≤ r.s
  k0 : 0 ≤ r.k
  eq : r.s = 0 ↔ r.a = r.b
  lo : -(10 ^ 30) ≤ r.v
  hi : r.v ≤ 10 ^ 30
section
variable {P : Program} {w : World} {K : PySem.W.Frag} {mg : Str → Option Value} {base : Heap}
def spWord : Sp := fun vs H Q _ => ∃ (q dk dn : Addr) (b : Bool) (r : Rw) (kk : List (List Key × V)) (kn : List (Key × V)), vs = [.ref q, .ref dk, .ref dn] ∧ H q = some (sq b (cells r)) ∧ RowS r ∧ H dk = some (.dT kk) ∧ valV kk [Sum.inr r.a, Sum.inr r.b] = none ∧
  H dn = some (.dK kn) ∧ kn.length ≤ 60 ∧ ∀ H', Same H H' → Q .non H'
abbrev NW : List Str := ["row", "known", "names", "above", "below", "steps", "rank", "value"]
theorem ndW : NW.Nodup := by decide +kernel
theorem dBl (a b : Bool) : decide (V.bl a = V.bl b) = (a == b) := by cases a <;> cases b <;> decide
theorem ok_word (T : TX K mg) : DfX P w K mg base 3 dPairWord ["row", "known", "names"] spWord := by
  obtain ⟨fdI, GI⟩ := ok_int (P := P) (w := w) (base := base) T
  obtain ⟨fdS, GS⟩ := ok_seq (P := P) (w := w) (base := base) T
  obtain ⟨fdN, GN⟩ := ok_name (P := P) (w := w) (base := base) T
  obtain ⟨fdV, GV⟩ := ok_value (P := P) (w := w) (base := base) T
  refine df_mk T 4 rfl (N := NW) ⟨rfl, rfl, rfl, by decide +kernel, rfl, by decide +kernel, by decide +kernel⟩ (fun _ _ _ _ _ _ us hl => match us, hl with | [_, _, _], _ => rfl) (fun vs H Q E h => ?_) (fun cdv A outer s H vs Q E hr h => ?_)
  · obtain ⟨q, dk, dn, b, r, kk, kn, rfl, _⟩ := h
    rfl
  · obtain ⟨q, dk, dn, b, r, kk, kn, rfl, hq, R, hk, hkv, hn, hnl, k⟩ := h
    have hu := hu_of hr
    have hr1 := hr.mono (j := 1) (by decide)
    refine ⟨_, pss_cons (ps_if (PW.pt (pw_or (pt_not (pt_val (pe_call GS.ok hr1 rfl (T.gl 7 _ rfl) GS.kp GS.b .nil pass0 (pa_cons (pv 0) pa_nil))))
        (pw_or1 (pt_cmpR op_ne (pe_callB call_len_seq (by rfl) T.len PySem.boot_len (pa_cons (pv 0) pa_nil)) pe_int (nomark _))))) (pss_one (ps_ret pe_str)) pss_nil)
      (pss_cons (ps_asg (pv 0) (pg_seq rfl (pgs_cons (pg_name (i := 3) ndW rfl (Or.inl rfl)) (pgs_cons (pg_name (i := 4) ndW rfl (Or.inl rfl)) (pgs_cons (pg_name (i := 5) ndW rfl (Or.inl rfl)) (pgs_cons (pg_name (i := 6) ndW rfl (Or.inl rfl)) (pgs_cons (pg_name (i := 7) ndW rfl (Or.inl rfl)) pgs_nil)))))))
      (pss_cons (ps_if (PW.pt (pw_or (pt_not (pt_val (pe_call GN.ok hr1 rfl (T.gl 8 _ rfl) GN.kp GN.b .nil pass0 (pa_cons (pv 3) pa_nil))))
        (pw_or1 (pt_not (pt_val (pe_call GN.ok hr1 rfl (T.gl 8 _ rfl) GN.kp GN.b .nil pass0 (pa_cons (pv 4) pa_nil))))))) (pss_one (ps_ret pe_str)) pss_nil)
      (pss_cons (ps_if (pt_not (pt_val (pe_call GV.ok hr rfl (T.gl 9 _ rfl) GV.kp GV.b .nil pass0 (pa_cons (pv 7) pa_nil)))) (pss_one (ps_ret pe_str)) pss_nil)
      (pss_cons (ps_if (PW.pt (pw_or (pt_not (pt_val (pe_call GI.ok hr1 rfl (T.gl 6 _ rfl) GI.kp GI.b .nil pass0 (pa_cons (pv 5) pa_nil))))
        (pw_or (pt_cmpR op_lt (pv 5) pe_int (nomark _)) (pw_or1 (pt_cmpR op_ne (pe_cmpR op_eq (pv 5) pe_int (nomark _)) (pe_cmpR op_eq (pv 3) (pv 4) (nomark _)) (nomark _)))))) (pss_one (ps_ret pe_str)) pss_nil)
      (pss_cons (ps_if (PW.pt (pw_or (pt_not (pt_val (pe_call GI.ok hr1 rfl (T.gl 6 _ rfl) GI.kp GI.b .nil pass0 (pa_cons (pv 6) pa_nil))))
        (pw_or1 (pt_cmpR op_lt (pv 6) pe_int (nomark _))))) (pss_one (ps_ret pe_str)) pss_nil)
      (pss_cons (ps_if (pt_cmp (pc_din hu (pe_tup (pa_cons (pv 3) (pa_cons (pv 4) pa_nil))) (pv 1))) (pss_one (ps_ret pe_str)) pss_nil)
      (pss_one (ps_ret (pe_ifExp (pt_cmpR op_gt (pe_callB call_lenD (by rfl) T.len PySem.boot_len (pa_cons (pv 2) pa_nil)) (pe_gi T.mrows) (nomark _)) pe_str pe_non))))))))), ?_⟩
    refine ⟨_, rfl, q, rfl, sq_raw hq, fun H1 s1 => ⟨true, rfl, iteF ?_⟩⟩
    refine ⟨_, rfl, q, _, rfl, (sq_or (s1 _ _ hq)), rfl, _, rfl, iteNN rfl ?_⟩
    refine ⟨_, rfl, q, cells r, rfl, sq_or (s1 _ _ hq), rfl, _, _, rfl, _, _, rfl, _, _, rfl, _, _, rfl, _, _, rfl, rfl, ?_⟩
    refine ⟨_, rfl, r.a, rfl, R.a, fun H2 s2 => ⟨true, rfl, iteF ?_⟩⟩
    refine ⟨_, rfl, r.b, rfl, R.b, fun H3 s3 => ⟨true, rfl, ?_⟩⟩
    refine ⟨_, rfl, r.v, rfl, R.lo, R.hi, true, rfl, ?_⟩
    refine ⟨_, rfl, r.s, rfl, true, rfl, iteF ?_⟩
    refine ⟨_, rfl, _, _, rfl, rfl, _, rfl, iteN (Int.not_lt.mpr R.s0) ?_⟩
    refine ⟨_, rfl, rfl, _, rfl, _, rfl, rfl, rfl, _, rfl, ?_⟩
    refine iteNN ?_ ?_
    · congr 1
      rw [dInt, Bool.eq_iff_iff, decide_eq_true_iff, decide_eq_true_iff, R.eq]
      exact ⟨fun z => by rw [z], fun z => V.str.inj z⟩
    refine ⟨_, rfl, r.k, rfl, true, rfl, iteF ?_⟩
    refine ⟨_, rfl, _, _, rfl, rfl, _, rfl, iteN (Int.not_lt.mpr R.k0) ?_⟩
    refine ⟨_, rfl, _, rfl, (by show 2 ≤ sizeLine; decide), fun t ht => ?_⟩
    have s4 : Same H3 (upd H3 t (.tup [.str r.a, .str r.b])) := Same.upd ht
    have sA := ((s1.trans s2).trans s3).trans s4
    refine ⟨_, rfl, dk, _, rfl, DGet.t (k := [Sum.inr r.a, Sum.inr r.b]) (sA _ _ hk) upd_same, _, rfl, ?_⟩
    rw [hkv]
    refine iteF ?_
    refine ⟨_, rfl, dn, kn, rfl, sA _ _ hn, _, _, rfl, rfl, _, rfl, iteN (by show ¬ (60 : Int) < (kn.length : Int); omega) ?_⟩
    exact k _ sA
end
end KW
end

section
set_option Elab.async false
set_option linter.all false
set_option maxRecDepth 100000
set_option maxHeartbeats 4000000
/-! judge_pairs. -/
namespace KW
open PySem PySem.Spec PyProof.Rows L2 KR
open FR (Ok Rows stepOf rankOf valueOf spot ups)
/-- rows, each of the kind c, in a sequence of the kind b -/
structure RSeq (b c : Bool) (H : Hp) (a : Addr) (L : RL) : Prop where
  sq : H a = some (sq b (refs L))
  rows : ∀ q ∈ L, H q.1 = some (KW.sq c (cells q.2))
theorem RSeq.same {b c : Bool} {H H' : Hp} {a : Addr} {L : RL} (h : RSeq b c H a L) (s : Same H H') : RSeq b c H' a L := ⟨s _ _ h.sq, fun q hq => s _ _ (h.rows q hq)⟩
theorem Wf_row {pool : List Str} {rs : Rows Str} (hp : ∀ n ∈ pool, NameOk n) (w : FR.Wf pool rs) {r : Rw} (hr : r ∈ rs) : RowS r := by
  have o := w.row r hr
  exact ⟨hp _ o.a, hp _ o.b, o.s0, o.k0, o.eq, o.lo, o.hi⟩
/-- the dict of names seen -/
def NamesD (pool : List Str) (kn : List (Key × V)) : Prop := (kn.map (·.1)).Nodup ∧ ∀ k ∈ kn.map (·.1), ∃ n ∈ pool, k = Sum.inr n
theorem NamesD.len {pool : List Str} {kn : List (Key × V)} (h : NamesD pool kn) : kn.length ≤ pool.length := by
  have := FR.nodup_le (m := pool.map (Sum.inr : Str → Key)) h.1 (fun k hk => by
    obtain ⟨n, h1, h2⟩ := h.2 k hk
    exact List.mem_map.mpr ⟨n, h1, h2.symm⟩)
  simpa using this
theorem NamesD.put {pool : List Str} {kn : List (Key × V)} (h : NamesD pool kn) {n : Str} (hn : n ∈ pool) (v : V) : NamesD pool (putK kn (Sum.inr n) v) := by
  cases e : valV kn (Sum.inr n : Key) with
  | none =>
    rw [putK_new v e]
    refine ⟨?_, fun k hk => ?_⟩
    · rw [← putK_new v e]
      exact nd_putK v h.1 e
    · rw [List.map_append] at hk
      rcases List.mem_append.mp hk with z | z
      · exact h.2 k z
      · exact ⟨n, hn, List.mem_singleton.mp z⟩
  | some y =>
    have ek : (putK kn (Sum.inr n : Key) v).map (·.1) = kn.map (·.1) := by
      unfold putK
      rw [valV_any, e]
      simp only [Option.isSome_some, if_true, List.map_map]
      apply List.map_congr_left
      intro q _
      show (if q.1 = Sum.inr n then (q.1, v) else q).1 = q.1
      split <;> rfl
    exact ⟨by rw [ek]; exact h.1, by rw [ek]; exact h.2⟩
section
variable {P : Program} {w : World} {K : PySem.W.Frag} {mg : Str → Option Value} {base : Heap}
def spJudge (K : PySem.W.Frag) : Sp := fun vs H Q _ => ∃ (a : Addr) (b c : Bool) (L : RL) (pool : List Str), vs = [.ref a] ∧ RSeq b c H a L ∧ L.length ≤ 1830 ∧ (∀ n ∈ pool, NameOk n) ∧ pool.length ≤ 60 ∧ FR.Wf pool (rws L) ∧ ∀ x H', Same H H' → ToldAt K H' x (FR.judged (rws L)) → Q x H'
abbrev NP : List Str := ["rows", "known", "names", "place", "row", "word"]
theorem ndP : NP.Nodup := by decide +kernel
theorem ok_judge (T : TX K mg) : DfX P w K mg base 4 dJudgePairs ["rows"] (spJudge K) := by
  obtain ⟨fdS, GS⟩ := ok_seq (P := P) (w := w) (base := base) T
  obtain ⟨fdN, GN⟩ := ok_name (P := P) (w := w) (base := base) T
  obtain ⟨fdW, GW⟩ := ok_word (P := P) (w := w) (base := base) T
  obtain ⟨fdJ, GJ⟩ := ok_jinit (P := P) (w := w) (base := base) T
  obtain ⟨fdF, GF⟩ := ok_jfault (P := P) (w := w) (base := base) T
  obtain ⟨fdI, GI⟩ := ok_finit (P := P) (w := w) (base := base) T
  refine df_mk T 5 rfl (N := NP) ⟨rfl, rfl, rfl, by decide +kernel, rfl, by decide +kernel, by decide +kernel⟩ (fun _ _ _ _ _ _ us hl => match us, hl with | [_], _ => rfl) (fun vs H Q E h => ?_) (fun cdv A outer s H vs Q E hr h => ?_)
  · obtain ⟨a, b, c, L, pool, rfl, _⟩ := h
    rfl
  · obtain ⟨a, b, c, L, pool, rfl, hS, hl, hp, hpl, wf, k⟩ := h
    have hu := hu_of hr
    have hr1 := hr.mono (j := 1) (by decide)
    have hr2 := hr.mono (j := 2) (by decide)
    refine ⟨_, pss_cons (ps_if (PW.pt (pw_or (pt_not (pt_val (pe_call GS.ok hr1 rfl (T.gl 7 _ rfl) GS.kp GS.b .nil pass0 (pa_cons (pv 0) pa_nil))))
        (pw_or1 (pt_cmpR op_gt (pe_callB call_len_seq (by rfl) T.len PySem.boot_len (pa_cons (pv 0) pa_nil)) (pe_gi T.mpairs) (nomark _))))) (pss_one (ps_ret (pe_make T.kF GI.ok hr2 rfl (T.gl 1 _ rfl) GI.b .nil pass0 (pa_cons (pe_un un_neg pe_int) (pa_cons pe_str pa_nil))))) pss_nil)
      (pss_cons (ps_par (i := 1) (j := 2) rfl ndP rfl rfl (by decide) rfl rfl (pa_cons pe_dnewT (pa_cons pe_dnewK pa_nil)) (by rfl))
      (pss_cons (ps_for PassesOwn.never rfl (pi_enumW (by rfl) T.enum (pa_cons (pv 0) pa_nil)) (pg_tup rfl (pgs_cons (pg_name (i := 3) ndP rfl (Or.inl rfl)) (pgs_cons (pg_name (i := 4) ndP rfl (Or.inl rfl)) pgs_nil)))
        (pss_cons (ps_if (PW.pt (pw_and (pt_val (pe_call GS.ok hr1 rfl (T.gl 7 _ rfl) GS.kp GS.b .nil pass0 (pa_cons (pv 4) pa_nil)))
            (pw_and (pt_cmpR op_eq (pe_callB call_len_seq (by rfl) T.len PySem.boot_len (pa_cons (pv 4) pa_nil)) pe_int (nomark _))
            (pw_and (pt_val (pe_call GN.ok hr1 rfl (T.gl 8 _ rfl) GN.kp GN.b .nil pass0 (pa_cons (pe_ix ix_seq (pv 4) pe_int (fun _ _ => rfl)) pa_nil)))
            (pw_and1 (pt_val (pe_call GN.ok hr1 rfl (T.gl 8 _ rfl) GN.kp GN.b .nil pass0 (pa_cons (pe_ix ix_seq (pv 4) pe_int (fun _ _ => rfl)) pa_nil))))))))
          (pss_cons (ps_dput hu (pv 2) (pe_ix ix_seq (pv 4) pe_int (fun _ _ => rfl)) pe_bl rfl) (pss_one (ps_dput hu (pv 2) (pe_ix ix_seq (pv 4) pe_int (fun _ _ => rfl)) pe_bl rfl))) pss_nil)
        (pss_cons (ps_set (i := 5) ndP rfl (Or.inl rfl) (pe_call GW.ok hr rfl (T.gl 10 _ rfl) GW.kp GW.b .nil pass0 (pa_cons (pv 4) (pa_cons (pv 1) (pa_cons (pv 2) pa_nil)))))
        (pss_cons (ps_if (pt_cmpR op_notN (pv 5) pe_non (nomark _)) (pss_one (ps_ret (pe_make T.kF GI.ok hr2 rfl (T.gl 1 _ rfl) GI.b .nil pass0 (pa_cons (pv 3) (pa_cons (pv 5) pa_nil))))) pss_nil)
        (pss_one (ps_dput hu (pv 1) (pe_tup (pa_cons (pe_ix ix_seq (pv 4) pe_int (fun _ _ => rfl)) (pa_cons (pe_ix ix_seq (pv 4) pe_int (fun _ _ => rfl)) pa_nil))) pe_bl rfl))))))
      (pss_one (ps_ret (pe_meth0 (pe_make T.kJ GJ.ok hr2 rfl (T.gl 2 _ rfl) GJ.b .nil pass0 (pa_cons (pe_lc (own := [("row", 4)]) (g := gName 4) (tt := tYes) rfl ndP
        (pi_seqW (pv 0)) (blkOk_by (N := NP) (sc := dJudgePairs.scope) (by decide +kernel)) (fun _ _ _ _ _ => pg_name (i := 4) ndP rfl (Or.inl rfl)) (fun _ _ _ _ _ => pts_nil)
        (fun _ _ _ _ _ => pe_callTy (call_tupK K rfl) (by rfl) T.tuple boot_tuple (pa_cons (pv 4) pa_nil))) pa_nil)) T.cJ T.mJfault GF.ok hr GF.b .nil pass0))))), ?_⟩
    have hrefs : (refs L).length = L.length := refs_len L
    refine ⟨_, rfl, a, rfl, sq_raw hS.sq, fun H1 s1 => ⟨true, rfl, iteF ?_⟩⟩
    refine ⟨_, rfl, a, _, rfl, sq_or (hS.same s1).sq, _, _, rfl, rfl, _, rfl, iteN (by rw [hrefs]; omega) ?_⟩
    intro dk hdk dn hdn
    have s2 : Same H (upd (upd H1 dk (.dT [])) dn (.dK [])) := s1.trans ((Same.upd hdk).trans (Same.upd hdn))
    have nkn : dk ≠ dn := fun z => by rw [z, upd_same] at hdn; cases hdn
    have k2 : (upd (upd H1 dk (.dT [])) dn (.dK [])) dk = some (.dT []) := by rw [upd_ne nkn, upd_same]
    have n2 : (upd (upd H1 dk (.dT [])) dn (.dK [])) dn = some (.dK []) := upd_same
    have hk0 : H dk = none := s1.free hdk
    have hn0 : H dn = none := by
      rw [upd_ne nkn.symm] at hdn
      exact s1.free hdn
    generalize upd (upd H1 dk (.dT [])) dn (.dK []) = H2 at s2 k2 n2 ⊢
    refine ⟨_, _, rfl, ?_⟩
    refine ⟨_, rfl, a, b, _, rfl, (hS.same s2).sq, fun J W => for_it W (fun i σ H' => (∃ v3 v4 v5, σ = [some (.ref a), some (.ref dk), some (.ref dn), v3, v4, v5]) ∧ Same H H' ∧ (∃ kk : List (List Key × V), H' dk = some (.dT kk) ∧ kk.length ≤ i ∧ ∀ x y : Str, valV kk [Sum.inr x, Sum.inr y] ≠ none → ∃ q ∈ (rws L).take i, q.a = x ∧ q.b = y) ∧
        ∃ kn : List (Key × V), H' dn = some (.dK kn) ∧ NamesD pool kn)
      ⟨⟨_, _, _, rfl⟩, s2, ⟨[], k2, Nat.le_refl _, fun x y h => absurd rfl h⟩, [], n2, List.nodup_nil, fun k hk => by cases hk⟩ (fun i σ H' _ h => (hS.same h.2.1).sq) ?_ ?_⟩
    · rintro i x σ H3 H4 hi ⟨⟨v3, v4, v5, rfl⟩, s3, ⟨kk, ekk, lkk, fkk⟩, kn, ekn, fkn⟩ ⟨t, _, _, rfl, ht, rfl, hc, hx⟩
      cases hc
      obtain ⟨q, hq, rfl, hqL, hri⟩ := refs_at hx
      have hi : i < L.length := (List.getElem?_eq_some_iff.mp hq).1
      have s4 : Same H3 (upd H3 t (.tup [.int (i : Nat), .ref q.1])) := Same.upd ht
      refine ⟨t, _, rfl, SqT.of upd_same, rfl, _, _, rfl, _, _, rfl, rfl, ?_⟩
      generalize upd H3 t (.tup [.int (i : Nat), .ref q.1]) = H4 at s4 ⊢
      have hm : q.2 ∈ rws L := List.mem_of_getElem? hri
      have rS := Wf_row hp wf hm
      have rO := wf.row _ hm
      have row4 : H4 q.1 = some (sq c (cells q.2)) := s4 _ _ (s3 _ _ (hS.rows q hqL))
      refine ⟨_, rfl, q.1, rfl, sq_raw row4, fun H5 s5 => ⟨true, rfl, iteT ?_⟩⟩
      have row5 := s5 _ _ row4
      refine ⟨_, rfl, q.1, _, rfl, sq_or row5, rfl, _, rfl, iteP rfl ?_⟩
      refine ⟨_, rfl, ix_of row5 (atI_nat (j := 0) rfl) ⟨q.2.a, rfl, rS.a, fun H6 s6 => ⟨true, rfl, iteT ?_⟩⟩⟩
      have row6 := s6 _ _ row5
      refine ⟨_, rfl, ix_of row6 (atI_nat (j := 1) rfl) ⟨q.2.b, rfl, rS.b, fun H7 s7 => ⟨true, rfl, iteT ?_⟩⟩⟩
      have s37 : Same H3 H7 := ((s4.trans s5).trans s6).trans s7
      have row7 := s7 _ _ row6
      have ekn7 := s37 _ _ ekn
      have ekk7 := s37 _ _ ekk
      have s07 := s3.trans s37
      have hkl : kn.length ≤ 60 := Nat.le_trans fkn.len hpl
      refine ⟨_, rfl, _, rfl, ix_of row7 (atI_nat (j := 0) rfl) ⟨dn, _, rfl, DPut.k (k := Sum.inr q.2.a) ekn7 (small1830 (by omega)), ?_⟩⟩
      have f8 := fkn.put rO.a (.bl true)
      have nqn : q.1 ≠ dn := ne_of row7 ekn7 sq_ne_dK
      have row8 : (upd H7 dn (.dK (putK kn (Sum.inr q.2.a) (.bl true)))) q.1 = some (sq c (cells q.2)) := by rw [upd_ne nqn]; exact row7
      have hk8l : (putK kn (Sum.inr q.2.a : Key) (.bl true)).length ≤ 60 := Nat.le_trans f8.len hpl
      refine ⟨_, rfl, _, rfl, ix_of row8 (atI_nat (j := 1) rfl) ⟨dn, _, rfl, DPut.k (k := Sum.inr q.2.b) upd_same (small1830 (by omega)), ?_⟩⟩
      have f9 := f8.put rO.b (.bl true)
      have row9 : (upd (upd H7 dn (.dK (putK kn (Sum.inr q.2.a) (.bl true)))) dn (.dK (putK (putK kn (Sum.inr q.2.a) (.bl true)) (Sum.inr q.2.b) (.bl true)))) q.1 = some (sq c (cells q.2)) := by rw [upd_ne nqn]; exact row8
      have ekn9 : (upd (upd H7 dn (.dK (putK kn (Sum.inr q.2.a) (.bl true)))) dn (.dK (putK (putK kn (Sum.inr q.2.a) (.bl true)) (Sum.inr q.2.b) (.bl true)))) dn = some (.dK (putK (putK kn (Sum.inr q.2.a) (.bl true)) (Sum.inr q.2.b) (.bl true))) := upd_same
      have ekk9 : (upd (upd H7 dn (.dK (putK kn (Sum.inr q.2.a) (.bl true)))) dn (.dK (putK (putK kn (Sum.inr q.2.a) (.bl true)) (Sum.inr q.2.b) (.bl true)))) dk = some (.dT kk) := by rw [upd_ne nkn, upd_ne nkn]; exact ekk7
      have s09 : Same H (upd (upd H7 dn (.dK (putK kn (Sum.inr q.2.a) (.bl true)))) dn (.dK (putK (putK kn (Sum.inr q.2.a) (.bl true)) (Sum.inr q.2.b) (.bl true)))) := fun b o e => by
        rw [upd_ne (ne_of_none e hn0), upd_ne (ne_of_none e hn0)]
        exact s07 _ _ e
      generalize (upd (upd H7 dn (.dK (putK kn (Sum.inr q.2.a) (.bl true)))) dn (.dK (putK (putK kn (Sum.inr q.2.a) (.bl true)) (Sum.inr q.2.b) (.bl true)))) = H9 at row9 ekn9 ekk9 s09 ⊢
      have hnone : valV kk [Sum.inr q.2.a, Sum.inr q.2.b] = none := by
        cases e : valV kk [(Sum.inr q.2.a : Key), Sum.inr q.2.b] with
        | none => rfl
        | some y =>
          obtain ⟨r, h1, h2, h3⟩ := fkk q.2.a q.2.b (by rw [e]; exact fun z => by cases z)
          exact absurd ⟨h2, h3⟩ (wf.ok.new hri r h1)
      refine ⟨_, rfl, _, rfl, _, rfl, q.1, dk, dn, c, q.2, kk, _, rfl, row9, rS, ekk9, hnone, ekn9, Nat.le_trans f9.len hpl, fun H10 s10 => ?_⟩
      refine ⟨_, rfl, rfl, _, rfl, iteNN rfl ?_⟩
      have row10 := s10 _ _ row9
      refine ⟨_, rfl, _, rfl, ix_of row10 (atI_nat (j := 0) rfl) ⟨_, rfl, ix_of row10 (atI_nat (j := 1) rfl) ⟨(by show 2 ≤ sizeLine; decide), fun u hu => ?_⟩⟩⟩
      have s11 : Same H10 (upd H10 u (.tup [.str q.2.a, .str q.2.b])) := Same.upd hu
      have ekk11 := s11 _ _ (s10 _ _ ekk9)
      have sF := s09.trans (s10.trans s11)
      refine ⟨dk, _, rfl, .inr ⟨kk, [Sum.inr q.2.a, Sum.inr q.2.b], u, ekk11, rfl, upd_same, small1830 (by omega), rfl⟩, ⟨_, _, _, rfl⟩, fun b o e => ?_, ⟨_, upd_same, Nat.le_trans (length_putK _ _ _) (by omega), fun x y hxy => ?_⟩, _, ?_, f9⟩
      · rw [upd_ne (ne_of_none e hk0)]
        exact sF _ _ e
      · rw [FR.take_snoc hri]
        rw [valV_put] at hxy
        by_cases z : ([Sum.inr x, Sum.inr y] : List Key) = [Sum.inr q.2.a, Sum.inr q.2.b]
        · injection z with z1 z2
          injection z2 with z2 z3
          exact ⟨q.2, List.mem_append_right _ List.mem_cons_self, (Sum.inr.inj z1).symm, (Sum.inr.inj z2).symm⟩
        · rw [if_neg z] at hxy
          obtain ⟨r, h1, h2⟩ := fkk x y hxy
          exact ⟨r, List.mem_append_left _ h1, h2⟩
      · rw [upd_ne nkn.symm]
        exact s11 _ _ (s10 _ _ ekn9)
    rintro σ H3 ⟨⟨v3, v4, v5, rfl⟩, s3, _⟩
    have S3 := hS.same s3
    refine ⟨_, rfl, a, b, _, rfl, S3.sq, fun J W D hD => ?_⟩
    refine lc_it W (fun i H' => Same H3 H' ∧ ∃ M : RL, rws M = (rws L).take i ∧ Tups H' M ∧ H' D = some (.lst (refs M))) ⟨Same.upd hD, [], rfl, (fun q hq => absurd hq (by simp)), upd_same⟩ (fun i H' _ h => h.1 _ _ S3.sq) ?_ ?_
    · rintro i x H4 H5 hi ⟨s4, M, eM, tM, dM⟩ ⟨rfl, hx⟩
      obtain ⟨q, hq, rfl, hqL, hri⟩ := refs_at hx
      have hi : i < L.length := (List.getElem?_eq_some_iff.mp hq).1
      have hrow := s4 _ _ (S3.rows q hqL)
      have lM : M.length ≤ i := by
        have := congrArg List.length eM
        rw [rws_len, List.length_take] at this
        omega
      have lm2 : (refs M).length < sizeLine := by rw [refs_len]; exact small1830 (by omega)
      refine ⟨rfl, _, rfl, q.1, cells q.2, rfl, ?_⟩
      have fin : ∀ (u : Addr) (H6 : Hp), Same H5 H6 → H6 u = some (.tup (cells q.2)) → H6 D = some (.lst (refs M)) ∧ (refs M).length < sizeLine ∧ Same H3 (upd H6 D (.lst (refs M ++ [V.ref u]))) ∧ ∃ M' : RL, rws M' = (rws L).take (i + 1) ∧ Tups (upd H6 D (.lst (refs M ++ [V.ref u]))) M' ∧ (upd H6 D (.lst (refs M ++ [V.ref u]))) D = some (.lst (refs M')) := by
        intro u H6 s6 eu
        refine ⟨s6 _ _ dM, lm2, fun b o e => ?_, M ++ [(u, q.2)], ?_, ?_, ?_⟩
        · rw [upd_ne (ne_of_none e hD)]
          exact s6 _ _ (s4 _ _ e)
        · rw [FR.take_snoc hri, ← eM]
          unfold rws
          rw [List.map_append]
          rfl
        · intro y hy
          have hne : ∀ (z : Addr) (xs : List V), H6 z = some (.tup xs) → z ≠ D := fun z xs e1 => ne_of e1 (s6 _ _ dM) (by intro z; cases z)
          rcases List.mem_append.mp hy with e1 | e1
          · rw [upd_ne (hne _ _ (s6 _ _ (tM y e1)))]
            exact s6 _ _ (tM y e1)
          · rw [List.mem_singleton.mp e1, upd_ne (hne _ _ eu)]
            exact eu
        · rw [upd_same]
          unfold refs
          rw [List.map_append]
          rfl
      cases c with
      | true =>
        refine .inl ⟨SqL.of hrow, fun u hu => ?_⟩
        obtain ⟨f1, f2, f3, f4⟩ := fin u _ (Same.upd (o := .tup (cells q.2)) hu) upd_same
        exact ⟨_, f1, f2, f3, f4⟩
      | false =>
        refine .inr ⟨SqT.of hrow, ?_⟩
        obtain ⟨f1, f2, f3, f4⟩ := fin q.1 _ (Same.refl _) hrow
        exact ⟨_, f1, f2, f3, f4⟩
    rintro H4 ⟨s4, M, eM, tM, dM⟩
    rw [hrefs, show L.length = (rws L).length from (rws_len L).symm, List.take_length] at eM
    have lM : M.length ≤ 1830 := by
      have := congrArg List.length eM
      rw [rws_len, rws_len] at this
      omega
    intro x dx nx ndx nex
    have sm : Same H4 (upd (upd H4 dx (.own x)) x (.ins (He.ga K "PairJudge") dx [])) := fun b o e => by rw [upd_ne (ne_of_none e nx), upd_ne (ne_of_none e ndx)]; exact e
    refine ⟨x, dx, D, M, rfl, upd_same, sm _ _ dM, tM.same sm, lM, by rw [eM]; exact wf.ok, fun H5 J5 b5 => ⟨rfl, ?_⟩⟩
    obtain ⟨dx5, a5, dS5, dU5, dR5, dV5, aS5, dP5, e5, _⟩ := J5.ex
    refine ⟨x, dx5, _, rfl, e5, rfl, x, M, rfl, J5, lM, by rw [eM]; exact wf.ok, fun y H6 s6 t6 => ?_⟩
    rw [eM] at t6
    refine k y H6 ?_ t6
    exact (s3.trans s4).trans ((Same.made nx ndx b5).trans s6)
end
end KW
end

section
set_option Elab.async false
set_option linter.all false
set_option maxRecDepth 100000
set_option maxHeartbeats 4000000
/-! The law's draws. -/
namespace KW
open PySem PySem.Spec PyProof.Rows L2 KR
/-- the source of draws, at most n of them taken from its second part -/
def WellAt (H : Hp) (w : Addr) (n : Nat) : Prop := ∃ w0 w1 w2 : Int, H w = some (.lst [.int w0, .int w1, .int w2]) ∧ 0 ≤ w1 ∧ w1 < 2147483629 ∧ 0 ≤ w2 ∧ w2 ≤ n
theorem WellAt.mono {H : Hp} {w : Addr} {n m : Nat} (h : WellAt H w n) (l : n ≤ m) : WellAt H w m := by
  obtain ⟨w0, w1, w2, e, h1, h2, h3, h4⟩ := h
  exact ⟨w0, w1, w2, e, h1, h2, h3, by omega⟩
theorem WellAt.same {H H' : Hp} {w : Addr} {n : Nat} (h : WellAt H w n) (s : Same H H') : WellAt H' w n := let ⟨w0, w1, w2, e, r⟩ := h; ⟨w0, w1, w2, s _ _ e, r⟩
/-- more was made, the source changed -/
theorem But.same {p : Addr} {H H1 H2 : Hp} (b : But p H H1) (s : Same H1 H2) : But p H H2 := b.trans (But.of s)
section
variable {P : Program} {w : World} {K : PySem.W.Frag} {mg : Str → Option Value} {base : Heap}
def spWell : Sp := fun vs H Q _ => ∃ c : Int, vs = [.int c] ∧ ∀ w H', H w = none → Same H H' → WellAt H' w 0 → Q (.ref w) H'
theorem ok_well (T : TX K mg) : DfX P w K mg base 1 dWell ["_law_cell"] spWell := by
  refine df_mk T 7 rfl (N := ["_law_cell"]) ⟨rfl, rfl, rfl, by decide +kernel, rfl, by decide +kernel, by decide +kernel⟩ (fun _ _ _ _ _ _ us hl => match us, hl with | [_], _ => rfl) (fun vs H Q E h => ?_) (fun cdv A outer s H vs Q E hr h => ?_)
  · obtain ⟨i, rfl, _⟩ := h
    rfl
  · obtain ⟨c, rfl, k⟩ := h
    refine ⟨_, pss_one (ps_ret (pe_lst (pa_cons (pe_op op_mul (pv 0) (pe_callTy call_int1 (by rfl) T.int boot_int (pa_cons (pe_cmpR op_ge (pv 0) (pe_op op_pow pe_int pe_int) (nomark _)) pa_nil)))
      (pa_cons (pe_op op_mod (pe_callTy call_int1 (by rfl) T.int boot_int (pa_cons (pv 0) pa_nil)) pe_int) (pa_cons pe_int pa_nil))))), ?_⟩
    refine ⟨_, rfl, _, rfl, _, _, rfl, rfl, ⟨by decide, by decide, by decide⟩, _, _, rfl, rfl, .inr ⟨_, rfl, _, _, rfl, rfl, .inr ?_, ?_⟩⟩
    · split <;> decide
    · refine ⟨_, rfl, .inl ⟨_, rfl, _, _, rfl, rfl, (by show (0 : Int) < 2147483629; decide), (by show 3 ≤ sizeLine; decide), fun w hw => ?_⟩⟩
      refine k w _ hw (Same.upd hw) ⟨_, _, 0, upd_same, Int.emod_nonneg _ (by decide), Int.emod_lt_of_pos _ (by decide), Int.le_refl _, Int.le_refl _⟩
def spDraw : Sp := fun vs H Q _ => ∃ (w : Addr) (m : Int) (n : Nat), vs = [.ref w, .int m] ∧ WellAt H w n ∧ n ≤ 1000000000 ∧ 0 < m ∧ m ≤ 10 ^ 15 ∧ ∀ r H', 0 ≤ r → r < m → WellAt H' w (n + 1) → But w H H' → Q (.int r) H'
abbrev ND : List Str := ["_law_well_here", "_law_many", "_law_digit", "_law_mixed_here"]
theorem ndD : ND.Nodup := by decide +kernel
theorem ok_draw (T : TX K mg) : DfX P w K mg base 1 dDraw ["_law_well_here", "_law_many"] spDraw := by
  refine df_mk T 8 rfl (N := ND) ⟨rfl, rfl, rfl, by decide +kernel, rfl, by decide +kernel, by decide +kernel⟩ (fun _ _ _ _ _ _ us hl => match us, hl with | [_, _], _ => rfl) (fun vs H Q E h => ?_) (fun cdv A outer s H vs Q E hr h => ?_)
  · obtain ⟨w, m, n, rfl, _⟩ := h
    rfl
  · obtain ⟨w, m, n, rfl, ⟨w0, w1, w2, ew, h1, h2, h3, h4⟩, hn, hm, hm2, k⟩ := h
    refine ⟨_, pss_cons (ps_if (pt_cmpR op_gt (pe_ix ix_list (pv 0) pe_int (fun _ _ => rfl)) pe_int (nomark _))
        (pss_cons (ps_set (i := 2) ndD rfl (Or.inl rfl) (pe_op op_mod (pe_callTy call_int1 (by rfl) T.int boot_int (pa_cons (pe_ix ix_list (pv 0) pe_int (fun _ _ => rfl)) pa_nil)) (pv 1)))
        (pss_cons (ps_asg (pe_op op_fdivW (pe_ix ix_list (pv 0) pe_int (fun _ _ => rfl)) (pv 1)) (pg_sub (pv 0) pe_int set_list))
        (pss_one (ps_ret (pv 2))))) pss_nil)
      (pss_cons (ps_asg (pe_op op_add (pe_ix ix_list (pv 0) pe_int (fun _ _ => rfl)) pe_int) (pg_sub (pv 0) pe_int set_list))
      (pss_cons (ps_set (i := 3) ndD rfl (Or.inl rfl) (pe_op op_mod (pe_callTy call_int1 (by rfl) T.int boot_int (pa_cons (pe_op op_pow (pe_op op_add (pe_op op_add (pe_ix ix_list (pv 0) pe_int (fun _ _ => rfl)) (pe_op op_mul pe_int (pe_ix ix_list (pv 0) pe_int (fun _ _ => rfl)))) pe_int) pe_int) pa_nil)) pe_int))
      (pss_cons (ps_set (i := 3) ndD rfl (Or.inl rfl) (pe_op op_mod (pe_callTy call_int1 (by rfl) T.int boot_int (pa_cons (pe_op op_mul (pe_op op_add (pv 3) (pe_ix ix_list (pv 0) pe_int (fun _ _ => rfl))) (pe_op op_add (pe_op op_fdiv (pv 3) pe_int) pe_int)) pa_nil)) pe_int))
      (pss_one (ps_ret (pe_op op_mod (pe_callTy call_int1 (by rfl) T.int boot_int (pa_cons (pe_op op_fdiv (pe_op op_mod (pe_callTy call_int1 (by rfl) T.int boot_int (pa_cons (pe_op op_mul (pv 3) (pe_op op_add (pe_op op_fdiv (pv 3) pe_int) pe_int)) pa_nil)) pe_int) pe_int) pa_nil)) (pv 1))))))), ?_⟩
    refine ⟨_, rfl, w, _, 0, _, rfl, rfl, SqL.of ew, rfl, _, _, rfl, rfl, _, rfl, iteC (fun e => ?_) (fun e => ?_)⟩
    · refine ⟨_, rfl, w, _, 0, _, rfl, rfl, SqL.of ew, rfl, .inl ⟨_, rfl, _, rfl, _, _, rfl, rfl, hm, ?_⟩⟩
      refine ⟨_, rfl, w, _, 0, _, rfl, rfl, SqL.of ew, rfl, _, rfl, _, _, rfl, rfl, wide_div (b := 50) hm (by omega) (by decide) (by decide), ?_⟩
      refine ⟨_, rfl, w, _, 0, 0, rfl, rfl, ew, rfl, ?_⟩
      refine ⟨_, rfl, k _ _ (Int.emod_nonneg _ (by omega)) (Int.emod_lt_of_pos _ hm) ⟨_, w1, w2, upd_same, h1, h2, h3, by omega⟩ (But.refl w H).put⟩
    · refine ⟨_, rfl, w, _, 2, _, rfl, rfl, SqL.of ew, rfl, _, _, rfl, rfl, ?_⟩
      refine ⟨_, rfl, w, _, 2, 2, rfl, rfl, ew, rfl, ?_⟩
      have e2 : (upd H w (.lst [V.int w0, V.int w1, V.int (w2 + 1)])) w = some (.lst [V.int w0, V.int w1, V.int (w2 + 1)]) := upd_same
      have b2 : But w H (upd H w (.lst [V.int w0, V.int w1, V.int (w2 + 1)])) := (But.refl w H).put
      show _
      generalize hH2 : upd H w (.lst [V.int w0, V.int w1, V.int (w2 + 1)]) = H2 at e2 b2
      have hset : upd H w (.lst (([V.int w0, V.int w1, V.int w2] : List V).set 2 (.int (w2 + 1)))) = H2 := hH2
      rw [hset]
      have wf : WellAt H2 w (n + 1) := ⟨w0, w1, w2 + 1, e2, h1, h2, by omega, by omega⟩
      refine ⟨_, rfl, w, _, 1, _, rfl, rfl, SqL.of e2, rfl, _, rfl, w, _, 2, _, rfl, rfl, SqL.of e2, rfl, _, _, rfl, rfl, .inl (by decide), _, _, rfl, rfl, _, _, rfl, rfl, _, _, rfl, rfl, ⟨by decide, by decide, by omega⟩, .inl ⟨_, rfl, _, _, rfl, rfl, (by show (0 : Int) < 2147483647; decide), ?_⟩⟩
      generalize hx : ((w1 + 50021 * (w2 + 1) + 17) ^ (3 : Int).toNat % 2147483647 : Int) = x
      have x0 : 0 ≤ x := by rw [← hx]; exact Int.emod_nonneg _ (by decide)
      have x1 : x < 2147483647 := by rw [← hx]; exact Int.emod_lt_of_pos _ (by decide)
      refine ⟨_, rfl, _, rfl, w, _, 2, _, rfl, rfl, SqL.of e2, rfl, _, _, rfl, rfl, _, rfl, _, _, rfl, rfl, ⟨by decide, by decide⟩, _, _, rfl, rfl, _, _, rfl, rfl, .inl (by omega), .inl ⟨_, rfl, _, _, rfl, rfl, (by show (0 : Int) < 2147483587; decide), ?_⟩⟩
      generalize hy : ((x + (w2 + 1)) * (x / 1021 + 69621) % 2147483587 : Int) = y
      have y0 : 0 ≤ y := by rw [← hy]; exact Int.emod_nonneg _ (by decide)
      have y1 : y < 2147483587 := by rw [← hy]; exact Int.emod_lt_of_pos _ (by decide)
      refine ⟨_, rfl, _, rfl, _, _, rfl, rfl, ⟨by decide, by decide⟩, _, _, rfl, rfl, _, _, rfl, rfl, .inl (by omega), .inl ⟨_, rfl, _, _, rfl, rfl, (by show (0 : Int) < 2147483563; decide), _, _, rfl, rfl, ⟨by decide, by decide⟩, .inl ⟨_, rfl, _, rfl, _, _, rfl, rfl, hm, ?_⟩⟩⟩
      exact k _ _ (Int.emod_nonneg _ (by omega)) (Int.emod_lt_of_pos _ hm) wf b2
end
end KW
end

section
set_option Elab.async false
set_option linter.all false
set_option maxRecDepth 100000
set_option maxHeartbeats 4000000
/-! One drawn of a sequence; values; levels. -/
namespace KW
open PySem PySem.Spec PyProof.Rows L2 KR
theorem at_int {α : Type} {xs : List α} {r : Int} (h0 : 0 ≤ r) (h1 : r < (xs.length : Int)) : ∃ (i : Nat) (v : α), xs[i]? = some v ∧ atI xs r = some v ∧ r = (i : Nat) := by
  have hi : r.toNat < xs.length := by omega
  refine ⟨r.toNat, xs[r.toNat], List.getElem?_eq_getElem hi, ?_, by omega⟩
  have := atI_nat (List.getElem?_eq_getElem hi)
  rw [show ((r.toNat : Nat) : Int) = r by omega] at this
  exact this
section
variable {P : Program} {w : World} {K : PySem.W.Frag} {mg : Str → Option Value} {base : Heap}
def spOne (K : PySem.W.Frag) : Sp := fun vs H Q _ => ∃ (w : Addr) (n : Nat), WellAt H w n ∧ n ≤ 1000000000 ∧
  ((∃ (a : Addr) (xs : List V), vs = [.ref w, .ref a] ∧ H a = some (.lst xs) ∧ a ≠ w ∧ 0 < xs.length ∧ xs.length ≤ 1000 ∧ ∀ (i : Nat) v H', xs[i]? = some v → WellAt H' w (n + 1) → But w H H' → Q v H') ∨
   (∃ z : Str, vs = [.ref w, .str z] ∧ 0 < z.cps.size ∧ z.cps.size ≤ 1000 ∧ ∀ c H', c ∈ z.cps.toList → WellAt H' w (n + 1) → But w H H' → Q (.str ⟨#[c]⟩) H'))
theorem ok_one (T : TX K mg) : DfX P w K mg base 2 dOne ["_law_well_here", "_law_some"] (spOne K) := by
  obtain ⟨fdD, GD⟩ := ok_draw (P := P) (w := w) (base := base) T
  refine df_mk T 9 rfl (N := ["_law_well_here", "_law_some"]) ⟨rfl, rfl, rfl, by decide +kernel, rfl, by decide +kernel, by decide +kernel⟩ (fun _ _ _ _ _ _ us hl => match us, hl with | [_, _], _ => rfl) (fun vs H Q E h => ?_) (fun cdv A outer s H vs Q E hr h => ?_)
  · obtain ⟨w, n, _, _, ⟨a, xs, rfl, _⟩ | ⟨z, rfl, _⟩⟩ := h
    · rfl
    · rfl
  · obtain ⟨w, n, W, hn, h⟩ := h
    refine ⟨_, pss_one (ps_ret (pe_ix ix_seq (pv 1) (pe_call GD.ok hr rfl (T.gl 14 _ rfl) GD.kp GD.b .nil pass0 (pa_cons (pv 0) (pa_cons (pe_callB call_len (by rfl) T.len PySem.boot_len (pa_cons (pv 1) pa_nil)) pa_nil))) (fun _ _ => rfl))), ?_⟩
    rcases h with ⟨a, xs, rfl, ha, hne, h0, hl, k⟩ | ⟨z, rfl, h0, hl, k⟩
    · refine ⟨_, rfl, _, rfl, _, rfl, _, xs.length, rfl, .inl ⟨_, SqL.of ha, rfl⟩, w, (xs.length : Int), n, rfl, W, hn, by omega, by omega, fun r H' r0 r1 W' b' => ?_⟩
      obtain ⟨i, v, e1, e2, _⟩ := at_int r0 r1
      exact .inl ⟨a, xs, r, v, rfl, rfl, SqL.of (b' _ _ ha hne), e2, k i v H' e1 W' b'⟩
    · refine ⟨_, rfl, _, rfl, _, rfl, _, z.length, rfl, ⟨Nat.le_trans hl (by decide), rfl⟩, w, (z.length : Int), n, rfl, W, hn, by show (0 : Int) < (z.cps.size : Int); omega, by show (z.cps.size : Int) ≤ 10 ^ 15; omega, fun r H' r0 r1 W' b' => ?_⟩
      have r1 : r < (z.cps.toList.length : Int) := by rw [Array.length_toList]; exact r1
      obtain ⟨i, c, e1, e2, _⟩ := at_int (xs := z.cps.toList) r0 r1
      exact .inr (.inr ⟨z, r, c, rfl, rfl, Nat.le_trans hl (by decide), e2, k c H' (List.mem_of_getElem? e1) W' b'⟩)
def spVal : Sp := fun vs H Q _ => ∃ (w : Addr) (n : Nat), vs = [.ref w] ∧ WellAt H w n ∧ n ≤ 1000000000 - 10 ∧ ∀ v H', -(10 ^ 30) ≤ v → v ≤ 10 ^ 30 → WellAt H' w (n + 4) → But w H H' → Q (.int v) H'
theorem ok_val (T : TX K mg) : DfX P w K mg base 3 dValue ["_law_well_here"] spVal := by
  obtain ⟨fdD, GD⟩ := ok_draw (P := P) (w := w) (base := base) T
  obtain ⟨fdO, GO⟩ := ok_one (P := P) (w := w) (base := base) T
  have nd : (["_law_well_here", "_law_great"] : List Str).Nodup := by decide +kernel
  refine df_mk T 11 rfl (N := ["_law_well_here", "_law_great"]) ⟨rfl, rfl, rfl, by decide +kernel, rfl, by decide +kernel, by decide +kernel⟩ (fun _ _ _ _ _ _ us hl => match us, hl with | [_], _ => rfl) (fun vs H Q E h => ?_) (fun cdv A outer s H vs Q E hr h => ?_)
  · obtain ⟨w, n, rfl, _⟩ := h
    rfl
  · obtain ⟨w, n, rfl, W, hn, k⟩ := h
    have hr1 := hr.mono (j := 1) (by decide)
    refine ⟨_, pss_cons (ps_if (pt_cmpR op_eq (pe_call GD.ok hr1 rfl (T.gl 14 _ rfl) GD.kp GD.b .nil pass0 (pa_cons (pv 0) (pa_cons pe_int pa_nil))) pe_int (nomark _))
        (pss_one (ps_ret (pe_op op_sub (pe_call GD.ok hr1 rfl (T.gl 14 _ rfl) GD.kp GD.b .nil pass0 (pa_cons (pv 0) (pa_cons pe_int pa_nil))) pe_int))) pss_nil)
      (pss_cons (ps_set (i := 1) nd rfl (Or.inl rfl) (pe_op op_add (pe_op op_mul (pe_call GD.ok hr1 rfl (T.gl 14 _ rfl) GD.kp GD.b .nil pass0 (pa_cons (pv 0) (pa_cons (pe_op op_pow pe_int pe_int) pa_nil))) (pe_op op_pow pe_int pe_int))
        (pe_call GD.ok hr1 rfl (T.gl 14 _ rfl) GD.kp GD.b .nil pass0 (pa_cons (pv 0) (pa_cons (pe_op op_pow pe_int pe_int) pa_nil)))))
      (pss_one (ps_ret (pe_call GO.ok hr rfl (T.gl 15 _ rfl) GO.kp GO.b .nil pass0 (pa_cons (pv 0) (pa_cons (pe_lst (pa_cons (pv 1) (pa_cons (pe_op op_sub pe_int (pv 1)) (pa_cons (pe_op op_pow pe_int pe_int) (pa_cons (pe_op op_sub pe_int (pe_op op_pow pe_int pe_int)) pa_nil))))) pa_nil)))))), ?_⟩
    refine ⟨_, rfl, w, 2, n, rfl, W, by omega, by decide, by decide, fun r H1 r0 r1 W1 b1 => ⟨rfl, _, rfl, iteC (fun e => ?_) (fun e => ?_)⟩⟩
    · refine ⟨_, rfl, w, 19, n + 1, rfl, W1, by omega, by decide, by decide, fun r2 H2 r20 r21 W2 b2 => ⟨_, _, rfl, rfl, ?_⟩⟩
      exact k _ _ (by omega) (by omega) (W2.mono (by omega)) (b1.trans b2)
    · refine ⟨_, rfl, _, _, rfl, rfl, ⟨by decide, by decide, by decide⟩, w, _, n + 1, rfl, W1, by omega, by decide, by decide, fun r2 H2 r20 r21 W2 b2 => ?_⟩
      have r21 : r2 < 1000000000000000 := r21
      refine ⟨_, _, rfl, rfl, ⟨by decide, by decide, by decide⟩, _, _, rfl, rfl, .inl (by omega), ?_⟩
      refine ⟨_, rfl, _, _, rfl, rfl, ⟨by decide, by decide, by decide⟩, w, _, n + 2, rfl, W2, by omega, by decide, by decide, fun r3 H3 r30 r31 W3 b3 => ?_⟩
      have r31 : r3 < 1000000000000000 := r31
      refine ⟨_, _, rfl, rfl, ?_⟩
      have g0 : 0 ≤ r2 * 10 ^ 15 + r3 := by omega
      have g1 : r2 * 10 ^ 15 + r3 ≤ 10 ^ 30 := by omega
      obtain ⟨g, hg⟩ : ∃ g : Int, g = r2 * 10 ^ (15 : Int).toNat + r3 := ⟨_, rfl⟩
      have g0 : 0 ≤ g := by rw [hg]; exact g0
      have g1 : g ≤ 10 ^ 30 := by rw [hg]; exact g1
      refine ⟨_, rfl, .int g, (by rw [hg]; rfl), .int g, (by rw [hg]; rfl), _, _, rfl, rfl, _, _, rfl, rfl, ⟨by decide, by decide, by decide⟩, _, _, rfl, rfl, ⟨by decide, by decide, by decide⟩, _, _, rfl, rfl, (by show 4 ≤ sizeLine; decide), fun c hc => ?_⟩
      obtain ⟨w0, w1, w2, ew, _⟩ := id W3
      have sc : Same H3 (upd H3 c (.lst [V.int g, V.int (0 - g), V.int (10 ^ 30), V.int (0 - 10 ^ 30)])) := Same.upd hc
      refine ⟨w, n + 3, W3.same sc, by omega, .inl ⟨c, _, rfl, upd_same, (ne_of_none ew hc).symm, by show 0 < 4; decide, by show 4 ≤ 1000; decide, fun i v H4 hv W4 b4 => ?_⟩⟩
      have fin : ∀ y : Int, -(10 ^ 30) ≤ y → y ≤ 10 ^ 30 → Q (.int y) H4 := fun y y0 y1 => k _ _ y0 y1 (W4.mono (by omega)) (((b1.trans b2).trans b3).trans ((But.of sc).trans b4))
      match i, hv with
      | 0, hv => cases hv; exact fin _ (by omega) g1
      | 1, hv => cases hv; exact fin _ (by omega) (by omega)
      | 2, hv => cases hv; exact fin _ (by decide) (by decide)
      | 3, hv => cases hv; exact fin _ (by decide) (by decide)
      | i + 4, hv => cases hv
end
end KW
end

section
set_option Elab.async false
set_option linter.all false
set_option maxRecDepth 100000
set_option maxHeartbeats 4000000
/-! Lists of data; levels. -/
namespace KW
open PySem PySem.Spec PyProof.Rows L2 KR
theorem dpAll_map {α : Type} {K : PySem.W.Frag} {H : Hp} (f : α → V) (g : α → PyData) : ∀ xs : List α, (∀ x ∈ xs, Dp K H (f x) (g x)) → DpAll K H (xs.map f) (xs.map g)
  | [], _ => .nil
  | x :: t, h => .cons (h x List.mem_cons_self) (dpAll_map f g t fun y hy => h y (List.mem_cons_of_mem _ hy))
theorem lay_all : ∀ ds : List PyData, (∀ d ∈ ds, d.canLay0 = true) → PyData.canLayAll0 ds = true
  | [], _ => by simp [PyData.canLayAll0]
  | d :: t, h => by
    simp only [PyData.canLayAll0, Bool.and_eq_true]
    exact ⟨h d List.mem_cons_self, lay_all t fun x hx => h x (List.mem_cons_of_mem _ hx)⟩
theorem depth_all (n : Nat) : ∀ ds : List PyData, (∀ d ∈ ds, d.depth ≤ n) → PyData.depthAll ds ≤ n
  | [], _ => by simp [PyData.depthAll]
  | d :: t, h => by
    have h1 := h d List.mem_cons_self
    have h2 := depth_all n t fun x hx => h x (List.mem_cons_of_mem _ hx)
    simp only [PyData.depthAll]
    omega
theorem shaped_list (ds : List PyData) (h : ∀ d ∈ ds, d.canLay0 = true ∧ d.depth ≤ 60) : SeqAt.shaped (.list ds) = true := by
  have h1 := lay_all ds fun d hd => (h d hd).1
  have h2 := depth_all 60 ds fun d hd => (h d hd).2
  show ((PyData.list ds).canLay0 && decide ((PyData.list ds).depth ≤ 64)) = true
  rw [Bool.and_eq_true]
  refine ⟨by simp only [PyData.canLay0]; exact h1, decide_eq_true ?_⟩
  simp only [PyData.depth]
  omega
theorem eqv_nil (ds : List PyData) : PyData.eqv (.list ds) (.list []) = ds.isEmpty := by
  cases ds <;> simp [PyData.eqv, PyData.eqvAll]
theorem dp_nil {K : PySem.W.Frag} {H : Hp} {a : Addr} (h : H a = some (.lst [])) : Dp K H (.ref a) (.list []) := .lst (SqL.of h) .nil
/-- xs != [] -/
theorem ne_nil {K : PySem.W.Frag} {H : Hp} {a z : Addr} {α : Type} {xs : List α} {f : α → V} {g : α → PyData} {Q : VK} (h : H a = some (.lst (xs.map f))) (hz : H z = some (.lst [])) (hd : ∀ x ∈ xs, Dp K H (f x) (g x)) (hs : ∀ x ∈ xs, (g x).canLay0 = true ∧ (g x).depth ≤ 60) (q : Q (.bl (!xs.isEmpty)) H) :
    rNeD K (.ref a) (.ref z) H Q := by
  refine ⟨.list (xs.map g), .list [], .lst (SqL.of h) (dpAll_map f g xs hd), dp_nil hz, shaped_list _ ?_, shaped_list _ (fun d hd => by cases hd), ?_⟩
  · intro d hd
    obtain ⟨x, hx, rfl⟩ := List.mem_map.mp hd
    exact hs x hx
  · rw [eqv_nil]
    have e : (xs.map g).isEmpty = xs.isEmpty := by cases xs <;> rfl
    rw [e]
    exact q
theorem eq_nil {K : PySem.W.Frag} {H : Hp} {a z : Addr} {α : Type} {xs : List α} {f : α → V} {g : α → PyData} {Q : VK} (h : H a = some (.lst (xs.map f))) (hz : H z = some (.lst [])) (hd : ∀ x ∈ xs, Dp K H (f x) (g x)) (hs : ∀ x ∈ xs, (g x).canLay0 = true ∧ (g x).depth ≤ 60) (q : Q (.bl (xs.isEmpty)) H) :
    rEqD K (.ref a) (.ref z) H Q := by
  refine ⟨.list (xs.map g), .list [], .lst (SqL.of h) (dpAll_map f g xs hd), dp_nil hz, shaped_list _ ?_, shaped_list _ (fun d hd => by cases hd), ?_⟩
  · intro d hd
    obtain ⟨x, hx, rfl⟩ := List.mem_map.mp hd
    exact hs x hx
  · rw [eqv_nil]
    have e : (xs.map g).isEmpty = xs.isEmpty := by cases xs <;> rfl
    rw [e]
    exact q
theorem lay_int (i : Int) : (PyData.int i).canLay0 = true ∧ (PyData.int i).depth ≤ 60 := by simp [PyData.canLay0, PyData.depth]
theorem lay_str {z : Str} (h : PyData.strOk z = true) : (PyData.str z).canLay0 = true ∧ (PyData.str z).depth ≤ 60 := by simp [PyData.canLay0, PyData.depth, h]
/-- the levels of a preorder -/
def LevOk (ls : List Nat) : Prop := ∀ (i l : Nat), ls[i]? = some l → (i = 0 → l = 0) ∧ ∀ (j y : Nat), i = j + 1 → ls[j]? = some y → l ≤ y + 1
def mostOf (ls : List Nat) : Nat := match ls.getLast? with
  | none => 0
  | some y => y + 1
theorem LevOk.snoc {ls : List Nat} (h : LevOk ls) {l : Nat} (hl : l ≤ mostOf ls) : LevOk (ls ++ [l]) := by
  intro i x hx
  by_cases hi : i < ls.length
  · rw [List.getElem?_append_left hi] at hx
    refine ⟨(h i x hx).1, fun j y hj hy => ?_⟩
    rw [List.getElem?_append_left (by omega)] at hy
    exact (h i x hx).2 j y hj hy
  · have hlen := (List.getElem?_eq_some_iff.mp hx).1
    rw [List.length_append, List.length_singleton] at hlen
    have e : i = ls.length := by omega
    subst e
    rw [List.getElem?_concat_length] at hx
    cases hx
    unfold mostOf at hl
    refine ⟨fun h0 => ?_, fun j y hj hy => ?_⟩
    · have : ls = [] := List.length_eq_zero_iff.mp h0
      rw [this] at hl
      simpa using hl
    · rw [List.getElem?_append_left (by omega)] at hy
      rw [List.getLast?_eq_getElem?, show ls.length - 1 = j by omega, hy] at hl
      exact hl
section
variable {P : Program} {w : World} {K : PySem.W.Frag} {mg : Str → Option Value} {base : Heap}
def spLev : Sp := fun vs H Q _ => ∃ (w : Addr) (n many : Nat), vs = [.ref w, .int (many : Nat)] ∧ WellAt H w n ∧ n ≤ 1000000 ∧ many ≤ 7 ∧ ∀ a (ls : List Nat) H', H a = none → H' a = some (.lst (ls.map fun l => V.int (l : Nat))) → ls.length = many → LevOk ls → WellAt H' w (n + 50) → But w H H' → Q (.ref a) H'
abbrev NV : List Str := ["_law_well_here", "_law_many", "_law_found", "_law_style", "_law_k", "_law_most", "_law_level"]
theorem ndV : NV.Nodup := by decide +kernel
theorem ok_lev (T : TX K mg) : DfX P w K mg base 2 dLevels ["_law_well_here", "_law_many"] spLev := by
  obtain ⟨fdD, GD⟩ := ok_draw (P := P) (w := w) (base := base) T
  refine df_mk T 12 rfl (N := NV) ⟨rfl, rfl, rfl, by decide +kernel, rfl, by decide +kernel, by decide +kernel⟩ (fun _ _ _ _ _ _ us hl => match us, hl with | [_, _], _ => rfl) (fun vs H Q E h => ?_) (fun cdv A outer s H vs Q E hr h => ?_)
  · obtain ⟨w, n, many, rfl, _⟩ := h
    rfl
  · obtain ⟨w, n, many, rfl, W, hn, hm, k⟩ := h
    refine ⟨_, pss_cons (ps_par (i := 2) (j := 3) rfl ndV rfl rfl (by decide) rfl rfl (pa_cons (pe_lst pa_nil) (pa_cons (pe_call GD.ok hr rfl (T.gl 14 _ rfl) GD.kp GD.b .nil pass0 (pa_cons (pv 0) (pa_cons pe_int pa_nil))) pa_nil)) (by rfl))
      (pss_cons (ps_for PassesOwn.never rfl (pi_range1 (by rfl) T.range (pa_cons (pv 1) pa_nil)) (pg_name (i := 4) ndV rfl (Or.inl rfl))
        (pss_cons (ps_set (i := 5) ndV rfl (Or.inl rfl) (pe_ifExp (pt_cmpR (op_neD hr.units) (pv 2) (pe_lst pa_nil) (nomark _)) (pe_op op_add (pe_ix ix_list (pv 2) (pe_un un_neg pe_int) (fun _ _ => rfl)) pe_int) pe_int))
        (pss_cons (ps_set (i := 6) ndV rfl (Or.inl rfl) (pv 5))
        (pss_cons (ps_if (PW.pt (pw_or (pt_cmpR op_eq (pv 3) pe_int (nomark _)) (pw_or1 (PW.pt (pw_and (pt_cmpR op_eq (pv 3) pe_int (nomark _)) (pw_and1 (pt_cmpR op_eq (pe_call GD.ok hr rfl (T.gl 14 _ rfl) GD.kp GD.b .nil pass0 (pa_cons (pv 0) (pa_cons pe_int pa_nil))) pe_int (nomark _))))))))
          (pss_one (ps_set (i := 6) ndV rfl (Or.inl rfl) (pe_call GD.ok hr rfl (T.gl 14 _ rfl) GD.kp GD.b .nil pass0 (pa_cons (pv 0) (pa_cons (pe_op op_add (pv 5) pe_int) pa_nil))))) pss_nil)
        (pss_cons (ps_if (pt_cmpR op_eq (pv 3) pe_int (nomark _))
          (pss_one (ps_set (i := 6) ndV rfl (Or.inl rfl) (pe_call GD.ok hr rfl (T.gl 14 _ rfl) GD.kp GD.b .nil pass0 (pa_cons (pv 0) (pa_cons (pe_op op_add pe_int (pe_ix ix_list (pe_lst (pa_cons (pv 5) (pa_cons pe_int pa_nil))) (pe_callTy call_int1 (by rfl) T.int boot_int (pa_cons (pe_cmpR op_gt (pv 5) pe_int (nomark _)) pa_nil)) (fun _ _ => rfl))) pa_nil))))) pss_nil)
        (pss_one (ps_expr (pe_bm PySem.F.plainAttrs_list PySem.F.slot_list_append PySem.F.type_list_append mt_append (pv 2) (pa_cons (pv 6) pa_nil)))))))))
      (pss_one (ps_ret (pv 2)))), ?_⟩
    refine ⟨(by show 0 ≤ sizeLine; decide), fun a ha => ?_⟩
    have s0 : Same H (upd H a (.lst [])) := Same.upd ha
    refine ⟨_, rfl, w, 4, n, rfl, W.same s0, by omega, by decide, by decide, fun st H1 st0 st1 W1 b1 => ⟨_, _, rfl, ?_⟩⟩
    have naw : a ≠ w := by
      obtain ⟨w0, w1, w2, ew, _⟩ := W
      exact (ne_of_none ew ha).symm
    have e1 : H1 a = some (.lst []) := b1 _ _ upd_same naw
    have b01 : But w H H1 := (But.of s0).trans b1
    refine ⟨_, rfl, (many : Int), rfl, by omega, by omega, ?_⟩
    refine for_range (lo := 0) (n := many) (fun i σ H' => (∃ v4 v5 v6, σ = [some (.ref w), some (.int (many : Nat)), some (.ref a), some (.int st), v4, v5, v6]) ∧ ∃ ls : List Nat, H' a = some (.lst (ls.map fun l => V.int (l : Nat))) ∧ ls.length = i ∧ LevOk ls ∧ WellAt H' w (n + 1 + 3 * i) ∧ But w H H')
      ⟨⟨_, _, _, rfl⟩, [], e1, rfl, (fun i l h => by cases h), W1, b01⟩ ?_ ?_
    · rintro i σ H2 hi ⟨⟨v4, v5, v6, rfl⟩, ls, el, ll, lo, W2, b2⟩
      refine ⟨_, rfl, (by show 0 ≤ sizeLine; decide), fun z hz => ?_⟩
      have s3 : Same H2 (upd H2 z (.lst [])) := Same.upd hz
      have ez : (upd H2 z (.lst [])) z = some (.lst []) := upd_same
      generalize upd H2 z (.lst []) = H3 at s3 ez ⊢
      have el3 := s3 _ _ el
      have W3 := W2.same s3
      have b3 := b2.same s3
      refine ne_nil (f := fun l : Nat => V.int (l : Nat)) (g := fun l => .int (l : Nat)) el3 ez (fun x _ => .int _) (fun x _ => lay_int _) ⟨_, rfl, ?_⟩
      obtain ⟨mo, hmo, hm⟩ : ∃ mo : Nat, mo = mostOf ls ∧ ((ls = [] ∧ mo = 0) ∨ ∃ init y, ls = init ++ [y] ∧ mo = y + 1) := by
        refine ⟨_, rfl, ?_⟩
        rcases List.eq_nil_or_concat ls with rfl | ⟨init, y, rfl⟩
        · exact .inl ⟨rfl, rfl⟩
        · exact .inr ⟨init, y, by simp, by simp [mostOf]⟩
      have hmol : mo ≤ i := by
        rw [← ll]
        rcases hm with ⟨h1, h2⟩ | ⟨init, y, h1, h2⟩
        · omega
        · have key : ∀ (j l : Nat), ls[j]? = some l → l ≤ j := by
            intro j
            induction j with
            | zero => intro l hl; have := (lo 0 l hl).1 rfl; omega
            | succ j ih =>
              intro l hl
              have hj : j < ls.length := by have := (List.getElem?_eq_some_iff.mp hl).1; omega
              have := (lo (j + 1) l hl).2 j ls[j] rfl (List.getElem?_eq_getElem hj)
              have := ih _ (List.getElem?_eq_getElem hj)
              omega
          have := key init.length y (by rw [h1]; simp)
          rw [h1, List.length_append, List.length_singleton]
          omega
      rcases hm with ⟨h1, h2⟩ | ⟨init, y, h1, h2⟩
      case' inl =>
        have he : ls.isEmpty = true := by rw [h1]; rfl
        rw [he]
        refine iteF ?_
      case' inr =>
        have he : ls.isEmpty = false := by rw [h1]; simp
        have hat : atI (ls.map fun l => V.int (l : Nat)) (-1) = some (.int (y : Nat)) := by
          rw [h1, List.map_append]
          exact atI_last _ _
        rw [he]
        refine iteT ⟨_, rfl, _, rfl, a, _, -1, .int (y : Nat), rfl, rfl, SqL.of el3, hat, _, _, rfl, rfl, ?_⟩
      all_goals
        refine ⟨.int (mo : Nat), (by rw [h2]; rfl), ?_⟩
        by_cases e : V.int st = V.int 0
        case' pos =>
          refine ⟨_, rfl, rfl, _, rfl, iteP e ?_⟩
          refine ⟨_, rfl, .int (mo : Nat), (by rw [h2]; rfl), _, _, rfl, rfl, w, _, n + 1 + 3 * i, rfl, W3, by omega, by omega, by omega, fun r H4 r0 r1 W4 b4 => ?_⟩
          obtain ⟨l, hl, hl2⟩ : ∃ l : Nat, r = l ∧ l ≤ mo := ⟨r.toNat, by omega, by omega⟩
          have el4 := b4 _ _ el3 naw
          have b04 := b3.trans b4
          have W4' := W4.mono (m := n + 1 + 3 * i + 2) (by omega)
          subst hl
        case' neg =>
          refine ⟨_, rfl, rfl, _, rfl, iteN e ?_⟩
          by_cases e1 : V.int st = V.int 1
          case' neg =>
            refine ⟨_, rfl, rfl, _, rfl, iteN e1 ?_⟩
            obtain ⟨l, hl, hl2⟩ : ∃ l : Nat, l = mo ∧ l ≤ mo := ⟨_, rfl, Nat.le_refl _⟩
            obtain ⟨H4, hH4⟩ : ∃ H4, H4 = H3 := ⟨_, rfl⟩
            have el4 := el3
            have b04 := b3
            have W4' := W3.mono (m := n + 1 + 3 * i + 2) (by omega)
            rw [← hH4] at el4 b04 W4' ⊢
          case' pos =>
            refine ⟨_, rfl, rfl, _, rfl, iteP e1 ?_⟩
            refine ⟨_, rfl, w, 4, n + 1 + 3 * i, rfl, W3, by omega, by decide, by decide, fun r1 H3' r10 r11 W3' b3' => ⟨rfl, _, rfl, ?_⟩⟩
            by_cases e2 : V.int r1 = V.int 0
            case' pos =>
              refine iteP e2 ?_
              refine ⟨_, rfl, .int (mo : Nat), (by rw [h2]; rfl), _, _, rfl, rfl, w, _, n + 1 + 3 * i + 1, rfl, W3', by omega, by omega, by omega, fun r H4 r0 r1 W4 b4 => ?_⟩
              obtain ⟨l, hl, hl2⟩ : ∃ l : Nat, r = l ∧ l ≤ mo := ⟨r.toNat, by omega, by omega⟩
              have el4 := b4 _ _ (b3' _ _ el3 naw) naw
              have b04 := b3.trans (b3'.trans b4)
              have W4' := W4.mono (m := n + 1 + 3 * i + 2) (by omega)
              subst hl
            case' neg =>
              refine iteN e2 ?_
              obtain ⟨l, hl, hl2⟩ : ∃ l : Nat, l = mo ∧ l ≤ mo := ⟨_, rfl, Nat.le_refl _⟩
              obtain ⟨H4, hH4⟩ : ∃ H4, H4 = H3' := ⟨_, rfl⟩
              have el4 := b3' _ _ el3 naw
              have b04 := b3.trans b3'
              have W4' := W3'.mono (m := n + 1 + 3 * i + 2) (by omega)
              rw [← hH4] at el4 b04 W4' ⊢
        all_goals
          by_cases e5 : V.int st = V.int 2
          case' pos =>
            refine ⟨_, rfl, rfl, _, rfl, iteP e5 ?_⟩
            refine ⟨_, rfl, .int (mo : Nat), (by rw [h2]; rfl), (by show 2 ≤ sizeLine; decide), fun c hc => ?_⟩
            have sc : Same H4 (upd H4 c (.lst [V.int (mo : Nat), V.int 2])) := Same.upd hc
            have ec : (upd H4 c (.lst [V.int (mo : Nat), V.int 2])) c = some (.lst [V.int (mo : Nat), V.int 2]) := upd_same
            generalize upd H4 c (.lst [V.int (mo : Nat), V.int 2]) = H5 at sc ec ⊢
            obtain ⟨mm, hmm, hmm2⟩ : ∃ mm : Nat, atI [V.int (mo : Nat), V.int 2] (if decide ((2 : Int) < (mo : Int)) = true then 1 else 0) = some (.int (mm : Nat)) ∧ mm ≤ mo := by
              by_cases z : (2 : Int) < (mo : Int)
              · rw [decide_eq_true z]
                exact ⟨2, rfl, by omega⟩
              · rw [decide_eq_false z]
                exact ⟨mo, rfl, Nat.le_refl _⟩
            refine ⟨.int (mo : Nat), (by rw [h2]; rfl), _, _, rfl, rfl, .inr ⟨_, rfl, c, _, _, _, rfl, rfl, SqL.of ec, hmm, _, _, rfl, rfl, w, _, n + 1 + 3 * i + 2, rfl, W4'.same sc, by omega, by omega, by omega, fun r6 H6 r60 r61 W6 b6 => ?_⟩⟩
            obtain ⟨l6, hl6, hl7⟩ : ∃ l : Nat, r6 = l ∧ l ≤ mo := ⟨r6.toNat, by omega, by omega⟩
            subst hl6
            refine ⟨_, rfl, .inl ⟨rfl, _, SqL.of (b6 _ _ (sc _ _ el4) naw)⟩, _, rfl, a, _, _, rfl, rfl, b6 _ _ (sc _ _ el4) naw, by rw [List.length_map]; exact small1830 (by omega), ⟨_, _, _, rfl⟩, ls ++ [l6], ?_, by simp [ll], lo.snoc (by omega), ?_, ?_⟩
            · rw [upd_same, List.map_append]
              rfl
            · obtain ⟨w0, w1, w2, ew, wr⟩ := W6
              exact WellAt.mono (n := n + 1 + 3 * i + 2 + 1) ⟨w0, w1, w2, by rw [upd_ne naw.symm]; exact ew, wr⟩ (by omega)
            · exact (b04.trans ((But.of sc).trans b6)).own ha
          case' neg =>
            refine ⟨_, rfl, rfl, _, rfl, iteN e5 ?_⟩
            refine ⟨_, rfl, .inl ⟨rfl, _, SqL.of el4⟩, .int (l : Nat), (by first | rfl | (rw [hl, h2]; rfl) | (rw [hl]; rfl)), a, _, _, rfl, rfl, el4, by rw [List.length_map]; exact small1830 (by omega), ⟨_, _, _, rfl⟩, ls ++ [l], ?_, by simp [ll], lo.snoc (by omega), ?_, ?_⟩
            · rw [upd_same, List.map_append]
              rfl
            · obtain ⟨w0, w1, w2, ew, wr⟩ := W4'
              exact WellAt.mono (n := n + 1 + 3 * i + 2) ⟨w0, w1, w2, by rw [upd_ne naw.symm]; exact ew, wr⟩ (by omega)
            · exact b04.own ha
    · rintro σ H2 ⟨⟨v4, v5, v6, rfl⟩, ls, el, ll, lo, W2, b2⟩
      exact ⟨_, rfl, k a ls H2 ha el ll lo (W2.mono (by omega)) b2⟩
end
end KW
end

section
set_option Elab.async false
set_option linter.all false
set_option maxRecDepth 100000
set_option maxHeartbeats 4000000
/-! The law's names. -/
namespace KW
open PySem PySem.Spec PyProof.Rows L2 KR
open FR (Lc NameC FoundOk)
abbrev cp (z : Str) : List Nat := z.cps.toList
theorem str_eq {a b : Str} (h : cp a = cp b) : a = b := by
  obtain ⟨⟨a⟩⟩ := a
  obtain ⟨⟨b⟩⟩ := b
  simp [cp] at h
  rw [h]
theorem cp_app (a b : Str) : cp (a ++ b) = cp a ++ cp b := by
  show (a.cps ++ b.cps).toList = _
  rw [Array.toList_append]
theorem cp_one (c : Nat) : cp ⟨#[c]⟩ = [c] := rfl
theorem az_mem : ∀ c, c < 123 → 97 ≤ c → c ∈ cp ("abcdefghijklmnopqrstuvwxyz" : Str) := by decide +kernel
theorem sg_mem : ∀ c, c < 123 → 97 ≤ c → c ∈ cp ("abcdefghijklmnopqrstuvwxyz0123456789" : Str) := by decide +kernel
theorem dg_mem : ∀ c, c < 58 → 48 ≤ c → c ∈ cp ("abcdefghijklmnopqrstuvwxyz0123456789" : Str) := by decide +kernel
theorem lt_of : ∀ c ∈ cp ("abcdefghijklmnoprstuvwxyz" : Str), (97 ≤ c ∧ c ≤ 122) ∧ c ≠ 113 := by decide +kernel
theorem lm_of : ∀ c ∈ cp (("abcdefghijklmnoprstuvwxyz" : Str) ++ ("q0123456789" : Str)), (97 ≤ c ∧ c ≤ 122) ∨ (48 ≤ c ∧ c ≤ 57) := by decide +kernel
theorem name_ok {z : Str} (h : NameC (cp z)) : NameOk z := by
  obtain ⟨h1, ⟨c, t, e, h2⟩, h3⟩ := h
  have hl : z.cps.size = (cp z).length := (Array.length_toList).symm
  refine ⟨by rw [hl, e]; simp, by rw [hl]; exact h1, ⟨c, ?_, az_mem c (by unfold Lc at h2; omega) h2.1⟩, fun x hx => ?_⟩
  · have : (cp z)[0]? = some c := by rw [e]; rfl
    rw [← this, Array.getElem?_toList]
  · rcases h3 x hx with q | q
    · exact sg_mem x (by unfold Lc at q; omega) q.1
    · exact dg_mem x (by omega) q.1
theorem name_str {z : Str} (h : NameOk z) : PyData.strOk z = true := by
  unfold PyData.strOk
  have key : ∀ c ∈ cp ("abcdefghijklmnopqrstuvwxyz0123456789" : Str), c < 0x110000 := by decide +kernel
  rw [Array.all_eq_true]
  intro i hi
  exact decide_eq_true (key _ (h.all _ (by rw [← Array.getElem_toList hi]; exact List.getElem_mem _)))
theorem inV_str (z : Str) (ns : List Str) : inV (.str z) (ns.map V.str) = decide (z ∈ ns) := by
  unfold inV
  rw [List.any_map, Bool.eq_iff_iff, List.any_eq_true, decide_eq_true_iff]
  constructor
  · rintro ⟨y, hy, e⟩
    have : y = z := by
      have e2 : eqV (.str y) (.str z) = true := e
      simpa [eqV] using e2
    exact this ▸ hy
  · intro h
    refine ⟨z, h, ?_⟩
    show eqV (.str z) (.str z) = true
    simp [eqV]
theorem flat_str (ns : List Str) : (ns.map V.str).all flatV = true := by
  rw [List.all_map, List.all_eq_true]
  intro x _
  rfl
theorem fall_cp : ∀ k : Nat, k < 7 → cp (("q" : Str) ++ Str.ofString (toString (k : Int))) = [113, 48 + k] := by decide +kernel
theorem cp_len (z : Str) : z.length = (cp z).length := (Array.length_toList).symm
theorem cut_pre {z : Str} {i : Nat} (h : i ≤ (cp z).length) : cp (cutS z none (some (i : Int))) = (cp z).take i := by
  unfold cutS
  rw [HT.sIx_none, HT.sIx_nat, cp_len]
  show ((cp z).drop 0).take (min i (cp z).length - 0) = _
  rw [List.drop_zero, Nat.sub_zero, Nat.min_eq_left h]
theorem cut_suf {z : Str} {i : Nat} (h : i < (cp z).length) : cp (cutS z (some ((i : Int) + 1)) none) = (cp z).drop (i + 1) := by
  unfold cutS
  rw [show ((i : Int) + 1) = ((i + 1 : Nat) : Int) from rfl, HT.sIx_none, HT.sIx_nat, cp_len]
  show ((cp z).drop (min (i + 1) (cp z).length)).take ((cp z).length - min (i + 1) (cp z).length) = _
  rw [Nat.min_eq_left (by omega), List.take_of_length_le (by rw [List.length_drop]; omega)]
section
variable {P : Program} {w : World} {K : PySem.W.Frag} {mg : Str → Option Value} {base : Heap}
def spNames : Sp := fun vs H Q _ => ∃ (w : Addr) (n many : Nat), vs = [.ref w, .int (many : Nat)] ∧ WellAt H w n ∧ n ≤ 1000000 ∧ many ≤ 7 ∧ ∀ a (ns : List Str) H', H a = none → H' a = some (.lst (ns.map V.str)) → ns.length = many → ns.Nodup → (∀ z ∈ ns, NameOk z) → WellAt H' w (n + 150) → But w H H' → Q (.ref a) H'
abbrev NN : List Str := ["_law_well_here", "_law_many", "_law_letters", "_law_found", "_law_k", "_law_name", "_law_turn", "_law_elder", "_law_at"]
theorem ndN : NN.Nodup := by decide +kernel
theorem ok_names (T : TX K mg) : DfX P w K mg base 3 dNames ["_law_well_here", "_law_many"] spNames := by
  obtain ⟨fdD, GD⟩ := ok_draw (P := P) (w := w) (base := base) T
  obtain ⟨fdO, GO⟩ := ok_one (P := P) (w := w) (base := base) T
  refine df_mk T 10 rfl (N := NN) ⟨rfl, rfl, rfl, by decide +kernel, rfl, by decide +kernel, by decide +kernel⟩ (fun _ _ _ _ _ _ us hl => match us, hl with | [_, _], _ => rfl) (fun vs H Q E h => ?_) (fun cdv A outer s H vs Q E hr h => ?_)
  · obtain ⟨w, n, many, rfl, _⟩ := h
    rfl
  · obtain ⟨w, n, many, rfl, W, hn, hm, k⟩ := h
    have hr1 := hr.mono (j := 1) (by decide)
    refine ⟨_, pss_cons (ps_par (i := 2) (j := 3) rfl ndN rfl rfl (by decide) rfl rfl (pa_cons pe_str (pa_cons (pe_lst pa_nil) pa_nil)) (by rfl))
      (pss_cons (ps_for PassesOwn.never rfl (pi_range1 (by rfl) T.range (pa_cons (pv 1) pa_nil)) (pg_name (i := 4) ndN rfl (Or.inl rfl))
        (pss_cons (ps_set (i := 5) ndN rfl (Or.inl rfl) (pe_call GO.ok hr rfl (T.gl 15 _ rfl) GO.kp GO.b .nil pass0 (pa_cons (pv 0) (pa_cons (pv 2) pa_nil))))
        (pss_cons (ps_for PassesOwn.never rfl (pi_range1 (by rfl) T.range (pa_cons (pe_call GD.ok hr1 rfl (T.gl 14 _ rfl) GD.kp GD.b .nil pass0 (pa_cons (pv 0) (pa_cons pe_int pa_nil))) pa_nil)) (pg_name (i := 6) ndN rfl (Or.inl rfl))
          (pss_one (ps_set (i := 5) ndN rfl (Or.inl rfl) (pe_op op_add_str (pv 5) (pe_call GO.ok hr rfl (T.gl 15 _ rfl) GO.kp GO.b .nil pass0 (pa_cons (pv 0) (pa_cons (pe_op op_add_str (pv 2) pe_str) pa_nil)))))))
        (pss_cons (ps_if (PW.pt (pw_and (pt_cmpR (op_neD hr.units) (pv 3) (pe_lst pa_nil) (nomark _)) (pw_and1 (pt_cmpR op_eq (pe_call GD.ok hr1 rfl (T.gl 14 _ rfl) GD.kp GD.b .nil pass0 (pa_cons (pv 0) (pa_cons pe_int pa_nil))) pe_int (nomark _)))))
          (pss_cons (ps_set (i := 7) ndN rfl (Or.inl rfl) (pe_call GO.ok hr rfl (T.gl 15 _ rfl) GO.kp GO.b .nil pass0 (pa_cons (pv 0) (pa_cons (pv 3) pa_nil))))
          (pss_cons (ps_set (i := 8) ndN rfl (Or.inl rfl) (pe_call GD.ok hr1 rfl (T.gl 14 _ rfl) GD.kp GD.b .nil pass0 (pa_cons (pv 0) (pa_cons (pe_callB call_len_str (by rfl) T.len PySem.boot_len (pa_cons (pv 7) pa_nil)) pa_nil))))
          (pss_one (ps_set (i := 5) ndN rfl (Or.inl rfl) (pe_op op_add_str (pe_op op_add_str (pe_slice sl_str (pv 7) po_none (po_some (pv 8))) (pe_call GO.ok hr rfl (T.gl 15 _ rfl) GO.kp GO.b .nil pass0 (pa_cons (pv 0) (pa_cons (pv 2) pa_nil))))
            (pe_slice sl_str (pv 7) (po_some (pe_op op_add (pv 8) pe_int)) po_none)))))) pss_nil)
        (pss_one (ps_expr (pe_bm PySem.F.plainAttrs_list PySem.F.slot_list_append PySem.F.type_list_append mt_append (pv 3) (pa_cons (pe_ifExp (pt_cmpR op_in_seq (pv 5) (pv 3) (by rfl)) (pe_op op_add_str pe_str (pe_callTy call_str_int (by rfl) T.str (by decide +kernel) (pa_cons (pv 4) pa_nil))) (pv 5)) pa_nil))))))))
      (pss_one (ps_ret (pv 3)))), ?_⟩
    refine ⟨(by show 0 ≤ sizeLine; decide), fun a ha => ⟨_, _, rfl, ?_⟩⟩
    have s0 : Same H (upd H a (.lst [])) := Same.upd ha
    have W1 := W.same s0
    have e1 : (upd H a (.lst [])) a = some (.lst []) := upd_same
    have naw : a ≠ w := by
      obtain ⟨w0, w1, w2, ew, _⟩ := W
      exact (ne_of_none ew ha).symm
    have b1 : But w H (upd H a (.lst [])) := But.of s0
    generalize upd H a (.lst []) = H1 at W1 e1 b1 ⊢
    have zl : 0 < ("abcdefghijklmnoprstuvwxyz" : Str).cps.size ∧ ("abcdefghijklmnoprstuvwxyz" : Str).cps.size ≤ 1000 := by decide +kernel
    have zm : 0 < (("abcdefghijklmnoprstuvwxyz" : Str) ++ ("q0123456789" : Str)).cps.size ∧ (("abcdefghijklmnoprstuvwxyz" : Str) ++ ("q0123456789" : Str)).cps.size ≤ 1000 := by decide +kernel
    have zq : ("abcdefghijklmnoprstuvwxyz" : Str).length + ("q0123456789" : Str).length ≤ sizeLine := by decide +kernel
    have hlog : ∀ k : Nat, k < 7 → (k : Int).natAbs.log2 < 1920 := by decide +kernel
    have hfl : ∀ k : Nat, k < 7 → (("q" : Str).length + (Str.ofString (toString (k : Int))).length ≤ sizeLine) := by decide +kernel
    have z1 : ∀ c : Nat, (⟨#[c]⟩ : Str).length = 1 := fun c => rfl
    refine ⟨_, rfl, (many : Int), rfl, by omega, by omega, ?_⟩
    refine for_range (lo := 0) (n := many) (fun i σ H' => (∃ v4 v5 v6 v7 v8, σ = [some (.ref w), some (.int (many : Nat)), some (.str "abcdefghijklmnoprstuvwxyz"), some (.ref a), v4, v5, v6, v7, v8]) ∧ ∃ ns : List Str, H' a = some (.lst (ns.map V.str)) ∧ ns.length = i ∧ ns.Nodup ∧ (∀ z ∈ ns, FoundOk i (cp z)) ∧ WellAt H' w (n + 20 * i) ∧ But w H H')
      ⟨⟨_, _, _, _, _, rfl⟩, [], e1, rfl, List.nodup_nil, (fun z hz => by cases hz), W1, b1⟩ ?_ ?_
    · rintro i σ H2 hi ⟨⟨v4, v5, v6, v7, v8, rfl⟩, ns, el, ll, nd, fo, W2, b2⟩
      refine ⟨_, rfl, _, rfl, w, n + 20 * i, W2, by omega, .inr ⟨_, rfl, zl.1, zl.2, fun c H3 hc W3 b3 => ?_⟩⟩
      obtain ⟨hc1, hc2⟩ := lt_of c hc
      have el3 := b3 _ _ el naw
      refine ⟨_, rfl, w, 8, n + 20 * i + 1, rfl, W3, by omega, by decide, by decide, fun r H4 r0 r1 W4 b4 => ⟨r, rfl, by omega, by omega, ?_⟩⟩
      have el4 := b4 _ _ el3 naw
      refine for_range (lo := 0) (n := r.toNat) (fun j σ H' => (∃ v6 name, σ = [some (.ref w), some (.int (many : Nat)), some (.str "abcdefghijklmnoprstuvwxyz"), some (.ref a), some (.int (0 + (i : Nat))), some (.str name), v6, v7, v8] ∧ NameC (cp name) ∧ (cp name).length = j + 1 ∧ ∀ t, cp name ≠ 113 :: t) ∧ H' a = some (.lst (ns.map V.str)) ∧ WellAt H' w (n + 20 * i + 2 + j) ∧ But w H H')
        ⟨⟨_, _, rfl, FR.found_one hc1, rfl, fun t e => hc2 (by injection e)⟩, el4, W4, (b2.trans b3).trans b4⟩ ?_ ?_
      · rintro j σ H5 hj ⟨⟨v6, name, rfl, nC, nL, nQ⟩, el5, W5, b5⟩
        refine ⟨_, rfl, _, rfl, _, rfl, _, _, rfl, rfl, zq, w, n + 20 * i + 2 + j, W5, by omega, .inr ⟨_, rfl, zm.1, zm.2, fun d H6 hd W6 b6 => ?_⟩⟩
        refine ⟨_, _, rfl, rfl, by rw [cp_len, nL, z1]; exact Nat.le_of_lt (small1830 (by omega)), ⟨_, _, rfl, ?_, ?_, ?_⟩, b6 _ _ el5 naw, W6, b5.trans b6⟩
        · rw [cp_app, cp_one]
          exact FR.found_more nC (by omega) (lm_of d hd)
        · rw [cp_app, cp_one, List.length_append, nL]
          rfl
        · intro t e
          rw [cp_app, cp_one] at e
          obtain ⟨x, s, e2⟩ := List.exists_cons_of_length_eq_add_one nL
          rw [e2] at e
          injection e with e3 _
          exact nQ s (by rw [e2, e3])
      rintro σ H5 ⟨⟨v6, name, rfl, nC, nL, nQ⟩, el5, W5, b5⟩
      have W5' := W5.mono (m := n + 20 * i + 10) (by omega)
      refine ⟨_, rfl, (by show 0 ≤ sizeLine; decide), fun z hz => ?_⟩
      have s6 : Same H5 (upd H5 z (.lst [])) := Same.upd hz
      have ez : (upd H5 z (.lst [])) z = some (.lst []) := upd_same
      generalize upd H5 z (.lst []) = H6 at s6 ez ⊢
      have el6 := s6 _ _ el5
      have W6 := W5'.same s6
      have b6 := b5.same s6
      refine ne_nil (f := V.str) (g := fun z => .str z) el6 ez (fun x _ => .str x) (fun x hx => lay_str (name_str (name_ok (fo x hx).1))) ⟨_, rfl, ?_⟩
      by_cases hns : ns = []
      case' pos =>
        have he : ns.isEmpty = true := by rw [hns]; rfl
        rw [he]
        refine iteF ?_
        obtain ⟨nm, hnm, fN, W8, H8, hH8, el8, b8⟩ : ∃ nm : Str, nm = name ∧ FoundOk i (cp nm) ∧ ∃ _ : WellAt H6 w (n + 20 * i + 20), ∃ H8, H8 = H6 ∧ H8 a = some (.lst (ns.map V.str)) ∧ But w H H8 := ⟨name, rfl, FR.found_not nC nQ, W6.mono (by omega), H6, rfl, el6, b6⟩
        rw [← hH8] at W8 ⊢
        rw [← hnm]
      case' neg =>
        have he : ns.isEmpty = false := by cases ns with
          | nil => exact absurd rfl hns
          | cons x t => rfl
        rw [he]
        refine iteT ⟨_, rfl, w, 3, n + 20 * i + 10, rfl, W6, by omega, by decide, by decide, fun r2 H7 r20 r21 W7 b7 => ⟨rfl, _, rfl, ?_⟩⟩
        by_cases hr2 : V.int r2 = V.int 0
        case' neg =>
          refine iteN hr2 ?_
          obtain ⟨nm, hnm, fN, W8, H8, hH8, el8, b8⟩ : ∃ nm : Str, nm = name ∧ FoundOk i (cp nm) ∧ ∃ _ : WellAt H7 w (n + 20 * i + 20), ∃ H8, H8 = H7 ∧ H8 a = some (.lst (ns.map V.str)) ∧ But w H H8 := ⟨name, rfl, FR.found_not nC nQ, W7.mono (by omega), H7, rfl, b7 _ _ el6 naw, b6.trans b7⟩
          rw [← hH8] at W8 ⊢
          rw [← hnm]
        case' pos =>
          refine iteP hr2 ?_
          have el7 := b7 _ _ el6 naw
          refine ⟨_, rfl, _, rfl, w, n + 20 * i + 11, W7, by omega, .inl ⟨a, _, rfl, el7, naw, by rw [List.length_map]; exact List.length_pos_iff.mpr hns, by rw [List.length_map]; omega, fun ix v H9 hv W9 b9 => ?_⟩⟩
          obtain ⟨el, hel, rfl⟩ : ∃ e, e ∈ ns ∧ v = V.str e := by
            rw [List.getElem?_map] at hv
            cases e : ns[ix]? with
            | none => rw [e] at hv; cases hv
            | some x => rw [e] at hv; exact ⟨x, List.mem_of_getElem? e, (Option.some.inj hv).symm⟩
          have fE := fo el hel
          have lE : (cp el).length ≤ 8 := fE.1.1
          have lE0 : 0 < (cp el).length := by obtain ⟨c, t, e, _⟩ := fE.1.2.1; rw [e]; simp
          have lEs : el.length ≤ sizeLine := by rw [cp_len]; exact Nat.le_of_lt (small1830 (by omega))
          refine ⟨_, rfl, _, rfl, _, rfl, lEs, w, _, n + 20 * i + 12, rfl, W9, by omega, by rw [cp_len]; omega, by rw [cp_len]; omega, fun r3 H10 r30 r31 W10 b10 => ?_⟩
          obtain ⟨at_, hat, hat2⟩ : ∃ t : Nat, r3 = t ∧ t < (cp el).length := ⟨r3.toNat, by omega, by rw [cp_len] at r31; omega⟩
          subst hat
          refine ⟨_, rfl, _, rfl, _, rfl, _, rfl, lEs, _, rfl, _, rfl, w, n + 20 * i + 13, W10, by omega, .inr ⟨_, rfl, zl.1, zl.2, fun c2 H11 hc3 W11 b11 => ?_⟩⟩
          obtain ⟨hc4, hc5⟩ := lt_of c2 hc3
          have hpre := cut_pre (z := el) (i := at_) (by omega)
          have hsuf := cut_suf (z := el) (i := at_) hat2
          have lpre : (cutS el none (some (at_ : Int))).length ≤ 8 := by rw [cp_len, hpre, List.length_take]; omega
          have lsuf : (cutS el (some ((at_ : Int) + 1)) none).length ≤ 8 := by rw [cp_len, hsuf, List.length_drop]; omega
          have lmid : (cutS el none (some (at_ : Int)) ++ (⟨#[c2]⟩ : Str)).length ≤ 9 := by rw [cp_len, cp_app, cp_one, List.length_append, ← cp_len]; simp; omega
          refine ⟨_, _, rfl, rfl, by rw [z1]; exact Nat.le_of_lt (small1830 (by omega)), _, rfl, _, rfl, _, _, rfl, rfl, _, rfl, _, rfl, lEs, _, _, rfl, rfl, by exact Nat.le_of_lt (small1830 (by omega)), ?_⟩
          obtain ⟨nm, hnm, fN, W8, H8, hH8, el8, b8⟩ : ∃ nm : Str, nm = cutS el none (some (at_ : Int)) ++ (⟨#[c2]⟩ : Str) ++ cutS el (some ((at_ : Int) + 1)) none ∧ FoundOk i (cp nm) ∧ ∃ _ : WellAt H11 w (n + 20 * i + 20), ∃ H8, H8 = H11 ∧ H8 a = some (.lst (ns.map V.str)) ∧ But w H H8 := by
            refine ⟨_, rfl, ?_, W11.mono (by omega), H11, rfl, b11 _ _ (b10 _ _ (b9 _ _ el7 naw) naw) naw, (b6.trans b7).trans ((b9.trans b10).trans b11)⟩
            rw [cp_app, cp_app, cp_one, hpre, hsuf]
            exact FR.found_edit fE hat2 hc4 hc5
          rw [← hH8] at W8 ⊢
      all_goals
        have slot4 : some (some (V.int (0 + (i : Int)))) = some (some (V.int (i : Int))) := by rw [Int.zero_add]
        have slot : ∀ {x : Str}, nm = x → some (some (V.str x)) = some (some (V.str nm)) := fun e => by rw [e]
        have fin : ∀ x : Str, FoundOk (i + 1) (cp x) → x ∉ ns → ((ns.map V.str).length < sizeLine ∧ ∃ ns' : List Str, (upd H8 a (.lst (ns.map V.str ++ [V.str x]))) a = some (.lst (ns'.map V.str)) ∧ ns'.length = i + 1 ∧ ns'.Nodup ∧ (∀ z ∈ ns', FoundOk (i + 1) (cp z)) ∧ WellAt (upd H8 a (.lst (ns.map V.str ++ [V.str x]))) w (n + 20 * (i + 1)) ∧ But w H (upd H8 a (.lst (ns.map V.str ++ [V.str x])))) := by
          intro x fx nx
          refine ⟨by rw [List.length_map]; exact small1830 (by omega), ns ++ [x], by rw [upd_same, List.map_append]; rfl, by simp [ll], ?_, ?_, ?_, b8.own ha⟩
          · rw [List.nodup_append]
            refine ⟨nd, by simp, fun p hp q hq e => ?_⟩
            rw [List.mem_singleton.mp hq] at e
            exact nx (e ▸ hp)
          · intro z hz
            rcases List.mem_append.mp hz with q | q
            · exact (fo z q).mono (Nat.le_succ _)
            · rw [List.mem_singleton.mp q]; exact fx
          · obtain ⟨w0, w1, w2, ew, wr⟩ := W8
            exact WellAt.mono (n := n + 20 * i + 20) ⟨w0, w1, w2, by rw [upd_ne naw.symm]; exact ew, wr⟩ (by omega)
        by_cases hin : nm ∈ ns
        case' pos =>
          obtain ⟨f1, f2⟩ := fin (("q" : Str) ++ Str.ofString (toString (i : Int))) (by rw [fall_cp i (by omega)]; exact FR.found_fall (by omega)) (fun hm => FR.found_fresh (k := i) (by omega) (ls := ns.map cp) (fun l hl => by
            obtain ⟨z, hz, rfl⟩ := List.mem_map.mp hl
            exact fo z hz) (List.mem_map.mpr ⟨_, hm, fall_cp i (by omega)⟩))
          refine ⟨_, rfl, .inl ⟨rfl, _, SqL.of el8⟩, .str nm, (slot (by first | rfl | exact hnm)), _, rfl, a, _, rfl, .inl (SqL.of el8), rfl, flat_str ns, _, rfl, cast_if (inV_str nm ns) (iteP hin ?_)⟩
          refine ⟨.int (i : Nat), slot4, _, rfl, hlog i (by omega), _, _, rfl, rfl, hfl i (by omega), a, _, _, rfl, rfl, el8, f1, ⟨_, _, _, _, _, rfl⟩, f2⟩
        case' neg =>
          obtain ⟨f1, f2⟩ := fin nm (fN.mono (Nat.le_succ _)) hin
          refine ⟨_, rfl, .inl ⟨rfl, _, SqL.of el8⟩, .str nm, (slot (by first | rfl | exact hnm)), _, rfl, a, _, rfl, .inl (SqL.of el8), rfl, flat_str ns, _, rfl, cast_if (inV_str nm ns) (iteN hin ?_)⟩
          exact ⟨.str nm, (slot (by first | rfl | exact hnm)), a, _, _, rfl, rfl, el8, f1, ⟨_, _, _, _, _, rfl⟩, f2⟩
    · rintro σ H2 ⟨⟨v4, v5, v6, v7, v8, rfl⟩, ns, el, ll, nd, fo, W2, b2⟩
      exact ⟨_, rfl, k a ns H2 ha el ll nd (fun z hz => name_ok (fo z hz).1) (W2.mono (by omega)) b2⟩
end
end KW
end

section
set_option Elab.async false
set_option linter.all false
set_option maxRecDepth 100000
set_option maxHeartbeats 4000000
/-! The law's rows of a drawn forest; a list in a drawn order. -/
namespace KW
open PySem PySem.Spec PyProof.Rows L2 KR
abbrev Xr := Str × Int × Nat
def cells3 (x : Xr) : List V := [.str x.1, .int x.2.1, .int (x.2.2 : Nat)]
abbrev XL := List (Addr × Xr)
def xrefs (L : XL) : List V := L.map fun q => .ref q.1
def xrs (L : XL) : List Xr := L.map (·.2)
def XTups (H : Hp) (L : XL) : Prop := ∀ q ∈ L, H q.1 = some (.tup (cells3 q.2))
structure FOk (xs : List Xr) : Prop where
  len : xs.length ≤ 7
  nd : (xs.map (·.1)).Nodup
  nm : ∀ x ∈ xs, NameOk x.1
  vl : ∀ x ∈ xs, -(10 ^ 30) ≤ x.2.1 ∧ x.2.1 ≤ 10 ^ 30
  lv : FR.levelsOk xs
section
variable {P : Program} {w : World} {K : PySem.W.Frag} {mg : Str → Option Value} {base : Heap}
def spRows : Sp := fun vs H Q _ => ∃ (w : Addr) (n most : Nat), vs = [.ref w, .int (most : Nat)] ∧ WellAt H w n ∧ n ≤ 1000000 - 1000 ∧ most ≤ 7 ∧
  ∀ a (X : XL) H', H a = none → H' a = some (.lst (xrefs X)) → XTups H' X → FOk (xrs X) → WellAt H' w (n + 300) → But w H H' → Q (.ref a) H'
abbrev NO : List Str := ["_law_well_here", "_law_most", "_law_many", "_law_names_here", "_law_levels_here", "_law_k"]
theorem ndO : NO.Nodup := by decide +kernel
theorem ok_rows (T : TX K mg) : DfX P w K mg base 4 dRows ["_law_well_here", "_law_most"] spRows := by
  obtain ⟨fdD, GD⟩ := ok_draw (P := P) (w := w) (base := base) T
  obtain ⟨fdN, GN⟩ := ok_names (P := P) (w := w) (base := base) T
  obtain ⟨fdL, GL⟩ := ok_lev (P := P) (w := w) (base := base) T
  obtain ⟨fdV, GV⟩ := ok_val (P := P) (w := w) (base := base) T
  refine df_mk T 13 rfl (N := NO) ⟨rfl, rfl, rfl, by decide +kernel, rfl, by decide +kernel, by decide +kernel⟩ (fun _ _ _ _ _ _ us hl => match us, hl with | [_, _], _ => rfl) (fun vs H Q E h => ?_) (fun cdv A outer s H vs Q E hr h => ?_)
  · obtain ⟨w, n, most, rfl, _⟩ := h
    rfl
  · obtain ⟨w, n, most, rfl, W, hn, hm, k⟩ := h
    have hr1 := hr.mono (j := 1) (by decide)
    have hr2 := hr.mono (j := 2) (by decide)
    refine ⟨_, pss_cons (ps_set (i := 2) ndO rfl (Or.inl rfl) (pe_call GD.ok hr1 rfl (T.gl 14 _ rfl) GD.kp GD.b .nil pass0 (pa_cons (pv 0) (pa_cons (pe_op op_add (pv 1) pe_int) pa_nil))))
      (pss_cons (ps_asg (pe_tup (pa_cons (pe_call GN.ok hr rfl (T.gl 16 _ rfl) GN.kp GN.b .nil pass0 (pa_cons (pv 0) (pa_cons (pv 2) pa_nil))) (pa_cons (pe_call GL.ok hr2 rfl (T.gl 18 _ rfl) GL.kp GL.b .nil pass0 (pa_cons (pv 0) (pa_cons (pv 2) pa_nil))) pa_nil)))
        (pg_tup rfl (pgs_cons (pg_name (i := 3) ndO rfl (Or.inr rfl)) (pgs_cons (pg_name (i := 4) ndO rfl (Or.inr rfl)) pgs_nil))))
      (pss_one (ps_ret (pe_lc (own := [("_law_k", 5)]) (g := gName 5) (tt := tYes) rfl ndO (pi_range1 (by rfl) T.range (pa_cons (pv 2) pa_nil)) (blkOk_by (N := NO) (sc := dRows.scope) (by decide +kernel))
        (fun _ _ _ _ _ => pg_name (i := 5) ndO rfl (Or.inl rfl)) (fun _ _ _ _ _ => pts_nil)
        (fun _ _ _ _ _ => pe_tup (pa_cons (pe_ix (ix_listK K rfl) (pv 3) (pv 5) (fun _ _ => rfl)) (pa_cons (pe_call GV.ok hr rfl (T.gl 17 _ rfl) GV.kp GV.b .nil pass0 (pa_cons (pv 0) pa_nil)) (pa_cons (pe_ix (ix_listK K rfl) (pv 4) (pv 5) (fun _ _ => rfl)) pa_nil)))))))), ?_⟩
    refine ⟨_, rfl, _, rfl, _, _, rfl, rfl, w, _, n, rfl, W, by omega, by omega, by omega, fun r H1 r0 r1 W1 b1 => ?_⟩
    obtain ⟨many, hmany, hm7⟩ : ∃ m : Nat, r = m ∧ m ≤ 7 := ⟨r.toNat, by omega, by omega⟩
    subst hmany
    refine ⟨_, rfl, _, rfl, w, n + 1, many, rfl, W1, by omega, hm7, fun an ns H2 han en ln ndn okn W2 b2 => ?_⟩
    refine ⟨_, rfl, _, rfl, w, n + 151, many, rfl, W2, by omega, hm7, fun al ls H3 hal el ll lol W3 b3 => ⟨(by show 2 ≤ sizeLine; decide), fun t ht => ?_⟩⟩
    obtain ⟨w0, w1, w2, ew, _⟩ := id W
    have naw : ∀ (q : Addr), H2 q = none → q ≠ w := fun q hq z => by
      obtain ⟨_, _, _, e, _⟩ := W2
      rw [z, e] at hq; cases hq
    have nnw : an ≠ w := fun z => by
      obtain ⟨_, _, _, e, _⟩ := W1
      rw [z, e] at han; cases han
    have s4 : Same H3 (upd H3 t (.tup [.ref an, .ref al])) := Same.upd ht
    refine ⟨t, _, rfl, SqT.of upd_same, rfl, _, _, rfl, _, _, rfl, rfl, ?_⟩
    have b4 : But w H (upd H3 t (.tup [.ref an, .ref al])) := ((b1.trans b2).trans b3).same s4
    have W4 := W3.same s4
    have en4 := s4 _ _ (b3 _ _ en nnw)
    have el4 := s4 _ _ el
    have nlw := naw al hal
    generalize upd H3 t (.tup [.ref an, .ref al]) = H4 at s4 b4 W4 en4 el4 ⊢
    refine ⟨_, rfl, (many : Int), rfl, by omega, by omega, fun D hD => ?_⟩
    have hDw : D ≠ w := fun z => by
      obtain ⟨_, _, _, e, _⟩ := W4
      rw [z, e] at hD; cases hD
    refine lc_it (walk_range (lo := 0) (n := many)) (fun i H' => But w H4 H' ∧ WellAt H' w (n + 201 + 4 * i) ∧ ∃ X : XL, H' D = some (.lst (xrefs X)) ∧ XTups H' X ∧ (xrs X).map (·.1) = ns.take i ∧ (xrs X).map (·.2.2) = ls.take i ∧ ∀ x ∈ xrs X, -(10 ^ 30) ≤ x.2.1 ∧ x.2.1 ≤ 10 ^ 30)
      ⟨(But.refl w H4).new hD, ?_, [], upd_same, (fun q hq => absurd hq (by simp)), rfl, rfl, fun x hx => absurd hx (by simp [xrs])⟩ (fun _ _ _ _ => True.intro) ?_ ?_
    · obtain ⟨y0, y1, y2, e, wr⟩ := W4
      exact WellAt.mono (n := n + 151 + 50) ⟨y0, y1, y2, by rw [upd_ne hDw.symm]; exact e, wr⟩ (by omega)
    · rintro i x H5 H6 hi ⟨b5, W5, X, eD, tX, eN, eL, vX⟩ ⟨rfl, rfl⟩
      have hni : ns[i]? = some ns[i] := List.getElem?_eq_getElem (by omega)
      have hli : ls[i]? = some ls[i] := List.getElem?_eq_getElem (by omega)
      have hn2 : (ns.map V.str)[i]? = some (V.str ns[i]) := by rw [List.getElem?_map, hni]; rfl
      have hl2 : (ls.map fun l => V.int (l : Nat))[i]? = some (V.int (ls[i] : Nat)) := by rw [List.getElem?_map, hli]; rfl
      have z0 : some (some (V.int (0 + (i : Int)))) = some (some (V.int (i : Int))) := by rw [Int.zero_add]
      refine ⟨rfl, _, rfl, .int (i : Nat), z0, an, _, _, _, rfl, rfl, SqL.of (b5 _ _ en4 nnw), atI_nat hn2, ?_⟩
      refine ⟨_, rfl, w, n + 201 + 4 * i, rfl, W5, by omega, fun v H7 v0 v1 W7 b7 => ?_⟩
      refine ⟨_, rfl, .int (i : Nat), z0, al, _, _, _, rfl, rfl, SqL.of (b7 _ _ (b5 _ _ el4 nlw) nlw), atI_nat hl2, (by show 3 ≤ sizeLine; decide), fun u hu => ?_⟩
      have s8 : Same H7 (upd H7 u (.tup [.str ns[i], .int v, .int (ls[i] : Nat)])) := Same.upd hu
      have eu : (upd H7 u (.tup [.str ns[i], .int v, .int (ls[i] : Nat)])) u = some (.tup (cells3 (ns[i], v, ls[i]))) := upd_same
      generalize upd H7 u (.tup [.str ns[i], .int v, .int (ls[i] : Nat)]) = H8 at s8 eu ⊢
      have eD8 := s8 _ _ (b7 _ _ eD hDw)
      have lX : X.length = i := by
        have := congrArg List.length eN
        simp only [xrs, List.length_map, List.length_take] at this
        omega
      have neT : ∀ (q : Addr) (xs : List V), H8 q = some (.tup xs) → q ≠ D := fun q xs e => ne_of e eD8 (by intro z; cases z)
      have hnt : ∀ q ∈ X, q.1 ≠ w := fun q hq => by
        obtain ⟨_, _, _, e, _⟩ := W5
        exact ne_of (tX q hq) e (by intro z; cases z)
      refine ⟨_, eD8, by show (X.map _).length < sizeLine; rw [List.length_map]; exact small1830 (by omega), ?_, ?_, X ++ [(u, (ns[i], v, ls[i]))], ?_, ?_, ?_, ?_, ?_⟩
      · intro b o e hb
        rw [upd_ne (ne_of_none e hD)]
        exact s8 _ _ (b7 _ _ (b5 _ _ e hb) hb)
      · obtain ⟨y0, y1, y2, e, wr⟩ := W7
        exact WellAt.mono (n := n + 201 + 4 * i + 4) ⟨y0, y1, y2, by rw [upd_ne hDw.symm]; exact s8 _ _ e, wr⟩ (by omega)
      · rw [upd_same]
        simp [xrefs]
      · intro q hq
        rcases List.mem_append.mp hq with z | z
        · have e := s8 _ _ (b7 _ _ (tX q z) (hnt q z))
          rw [upd_ne (neT _ _ e)]
          exact e
        · rw [List.mem_singleton.mp z, upd_ne (neT _ _ eu)]
          exact eu
      · rw [FR.take_snoc hni, ← eN]
        simp [xrs]
      · rw [FR.take_snoc hli, ← eL]
        simp [xrs]
      · intro x hx
        unfold xrs at hx
        rw [List.map_append] at hx
        rcases List.mem_append.mp hx with z | z
        · exact vX x z
        · rw [List.mem_singleton.mp z]
          exact ⟨v0, v1⟩
    · rintro H5 ⟨b5, W5, X, eD, tX, eN, eL, vX⟩
      rw [List.take_of_length_le (by omega)] at eN eL
      have hx : ∀ x ∈ xrs X, x.1 ∈ ns := fun x hx => by rw [← eN]; exact List.mem_map.mpr ⟨x, hx, rfl⟩
      refine k D X H5 (b4.freeB hD hDw) eD tX ⟨?_, by rw [eN]; exact ndn, fun x h => okn _ (hx x h), vX, ?_⟩ (W5.mono (by omega)) (b4.trans b5)
      · have := congrArg List.length eN
        rw [List.length_map] at this
        omega
      · intro i x hi
        have h1 : ls[i]? = some x.2.2 := by rw [← eL, List.getElem?_map, hi]; rfl
        refine ⟨(lol i _ h1).1, fun j y hj hy => ?_⟩
        have h2 : ls[j]? = some y.2.2 := by rw [← eL, List.getElem?_map, hy]; rfl
        exact (lol i _ h1).2 j _ hj h2
end
end KW
end

section
set_option Elab.async false
set_option linter.all false
set_option maxRecDepth 100000
set_option maxHeartbeats 4000000
/-! Rows sorted. -/
namespace KW
open PySem PySem.Spec PyProof.Rows L2 KR
def rowD (r : Rw) : PyData := .tuple [.str r.a, .str r.b, .int r.s, .int r.k, .int r.v]
def leR : Rw → Rw → Bool := PySem.W.dataLe false rowD
theorem leR_total : PySem.W.TotalLe leR := PySem.W.sortLe_total (PyProof.Rows.listOrd PyProof.Rows.itemOrd) false fun b => PySem.W.keyToks (rowD b)
theorem leR_anti {r q : Rw} (h1 : leR r q = true) (h2 : leR q r = true) : r = q := by
  have e1 : PyProof.Rows.lexLt PyProof.Rows.itemOrd (PySem.W.keyToks (rowD q)) (PySem.W.keyToks (rowD r)) = false := by
    have : (!PyProof.Rows.lexLt PyProof.Rows.itemOrd (PySem.W.keyToks (rowD q)) (PySem.W.keyToks (rowD r))) = true := h1
    simpa using this
  have e2 : PyProof.Rows.lexLt PyProof.Rows.itemOrd (PySem.W.keyToks (rowD r)) (PySem.W.keyToks (rowD q)) = false := by
    have : (!PyProof.Rows.lexLt PyProof.Rows.itemOrd (PySem.W.keyToks (rowD r)) (PySem.W.keyToks (rowD q))) = true := h2
    simpa using this
  have e := PyProof.Rows.lex_total _ _ e2 e1
  obtain ⟨a, b, s, k, v⟩ := r
  obtain ⟨a', b', s', k', v'⟩ := q
  simp [rowD, PySem.W.keyToks, PySem.W.keyToksAll] at e
  obtain ⟨e1, e2, e3, e4, e5⟩ := e
  rw [str_eq (by simp [cp, e1] : cp a = cp a'), str_eq (by simp [cp, e2] : cp b = cp b'), e3, e4, e5]
theorem sort_perm {l m : List Rw} (p : l.Perm m) : l.mergeSort leR = m.mergeSort leR := by
  have t : ∀ a b c : Rw, leR a b = true → leR b c = true → leR a c = true := leR_total.trans
  have u : ∀ a b : Rw, (leR a b || leR b a) = true := fun a b => by
    rcases leR_total.total a b with h | h <;> rw [h] <;> simp
  exact FR.sort_uniq (R := fun x y => leR x y = true) (((List.mergeSort_perm l leR).trans p).trans (List.mergeSort_perm m leR).symm) (List.pairwise_mergeSort t u l) (List.pairwise_mergeSort t u m) fun x _ y _ h1 h2 => leR_anti h1 h2
theorem row_depth (r : Rw) : (rowD r).depth ≤ 60 := by simp [rowD, PyData.depth, PyData.depthAll]
/-- rows by their addresses, sorted -/
def sortL (M : RL) : RL := M.mergeSort (PySem.W.dataLe false fun q => rowD q.2)
theorem sortL_rws (M : RL) : rws (sortL M) = (rws M).mergeSort leR := by
  unfold rws sortL
  exact List.map_mergeSort fun a _ b _ => rfl
theorem sortL_mem {M : RL} {q : Addr × Rw} : q ∈ sortL M ↔ q ∈ M := (List.mergeSort_perm M _).mem_iff
theorem sort_use {K : PySem.W.Frag} {H : Hp} {a : Addr} {M : RL} {Q : VK} (h : H a = some (.lst (refs M))) (hT : Tups H M) (q : ∀ p, H p = none → Q (.ref p) (upd H p (.lst (refs (sortL M))))) : rSortD K [.ref a] H Q := by
  have e1 : (M.map fun q => (V.ref q.1, rowD q.2)).map (·.1) = refs M := by
    rw [List.map_map]
    rfl
  have e2 : ((M.map fun q => (V.ref q.1, rowD q.2)).mergeSort (PySem.W.dataLe false (·.2))).map (·.1) = refs (sortL M) := by
    unfold sortL refs
    rw [← List.map_mergeSort (r := PySem.W.dataLe false fun q : Addr × Rw => rowD q.2) (s := PySem.W.dataLe false (·.2)) (f := fun q : Addr × Rw => (V.ref q.1, rowD q.2)) fun a _ b _ => rfl, List.map_map]
    rfl
  refine ⟨a, M.map fun q => (V.ref q.1, rowD q.2), rfl, SqL.of (by rw [e1]; exact h), ?_, ?_, ?_, ?_, fun p hp => ?_⟩
  · intro x hx
    obtain ⟨y, hy, rfl⟩ := List.mem_map.mp hx
    exact .tup (SqT.of (hT y hy)) (.cons (.str _) (.cons (.str _) (.cons (.int _) (.cons (.int _) (.cons (.int _) .nil)))))
  · intro x hx y hy
    rw [List.map_map] at hx hy
    obtain ⟨x', _, rfl⟩ := List.mem_map.mp hx
    obtain ⟨y', _, rfl⟩ := List.mem_map.mp hy
    simp [rowD, PySem.W.alike, PySem.W.alikeAll]
  · left
    intro x hx
    rw [List.map_map] at hx
    obtain ⟨x', _, rfl⟩ := List.mem_map.mp hx
    exact ⟨_, _, rfl⟩
  · intro x hx
    obtain ⟨y, hy, rfl⟩ := List.mem_map.mp hx
    exact row_depth _
  · rw [e2]
    exact q p hp
end KW
end

section
set_option Elab.async false
set_option linter.all false
set_option maxRecDepth 100000
set_option maxHeartbeats 4000000
/-! The law's own pair rows. -/
namespace KW
open PySem PySem.Spec PyProof.Rows L2 KR
open FR (Ok Rows pstep pstart pairsOf PInv)
theorem cutV_pre {xs : List V} {i : Nat} (h : i ≤ xs.length) : cutV xs none (some (i : Int)) = xs.take i := by
  unfold cutV
  rw [HT.sIx_none, HT.sIx_nat, List.drop_zero, Nat.sub_zero, Nat.min_eq_left h]
theorem ixN_nat {n l : Nat} (h : l < n) : ixN n (l : Int) = some l := by
  unfold ixN
  rw [if_pos (by omega), if_pos (by omega)]
  simp
theorem rep_one (n : Nat) (x : V) : (List.replicate n [x]).flatten = List.replicate n x := by
  induction n with
  | zero => rfl
  | succ n ih => rw [List.replicate_succ, List.flatten_cons, ih]; rfl
/-- what the forest's rows must be -/
structure FIn (xs : List Xr) : Prop where
  len : xs.length ≤ 60
  nd : (xs.map (·.1)).Nodup
  vl : ∀ x ∈ xs, -(10 ^ 30) ≤ x.2.1 ∧ x.2.1 ≤ 10 ^ 30
  lv : FR.levelsOk xs
abbrev LL := List (Addr × (Str × Int))
def lrefs (L : LL) : List V := L.map fun q => .ref q.1
def LTups (H : Hp) (L : LL) : Prop := ∀ q ∈ L, H q.1 = some (.tup [.str q.2.1, .int q.2.2])
section
variable {P : Program} {w : World} {K : PySem.W.Frag} {mg : Str → Option Value} {base : Heap}
def spPairs : Sp := fun vs H Q _ => ∃ (a : Addr) (b : Bool) (X : XL), vs = [.ref a] ∧ H a = some (sq b (xrefs X)) ∧ XTups H X ∧ FIn (xrs X) ∧
  ∀ c (M : RL) H', H c = none → H' c = some (.lst (refs M)) → Tups H' M → rws M = (pairsOf (xrs X)).mergeSort leR → Same H H' → Q (.ref c) H'
abbrev NQ : List Str := ["_law_rows_here", "_law_found", "_law_line", "_law_counts", "_law_name", "_law_value_here", "_law_level", "_law_deep", "_law_above", "_law_rank"]
theorem ndQ : NQ.Nodup := by decide +kernel
theorem ok_pairs (T : TX K mg) : DfX P w K mg base 1 dPairs ["_law_rows_here"] spPairs := by
  refine df_mk T 14 rfl (N := NQ) ⟨rfl, rfl, rfl, by decide +kernel, rfl, by decide +kernel, by decide +kernel⟩ (fun _ _ _ _ _ _ us hl => match us, hl with | [_], _ => rfl) (fun vs H Q E h => ?_) (fun cdv A outer s H vs Q E hr h => ?_)
  · obtain ⟨a, b, X, rfl, _⟩ := h
    rfl
  · obtain ⟨a, b, X, rfl, ha, hX, F, k⟩ := h
    refine ⟨_, pss_cons (ps_par3 (i := 1) (j := 2) (l := 3) rfl ndQ rfl rfl rfl (by decide) (by decide) (by decide) rfl rfl rfl (pa_cons (pe_lst pa_nil) (pa_cons (pe_lst pa_nil) (pa_cons (pe_op op_rep (pe_lst (pa_cons pe_int pa_nil)) pe_int) pa_nil))) (by rfl))
      (pss_cons (ps_for PassesOwn.never rfl (pi_seqW (pv 0)) (pg_tup rfl (pgs_cons (pg_name (i := 4) ndQ rfl (Or.inl rfl)) (pgs_cons (pg_name (i := 5) ndQ rfl (Or.inl rfl)) (pgs_cons (pg_name (i := 6) ndQ rfl (Or.inl rfl)) pgs_nil))))
        (pss_cons (ps_set (i := 3) ndQ rfl (Or.inl rfl) (pe_op op_cat (pe_slice sl_list (pv 3) po_none (po_some (pe_op op_add (pv 6) pe_int))) (pe_op op_rep (pe_lst (pa_cons pe_int pa_nil)) (pe_op op_sub pe_int (pv 6)))))
        (pss_cons (ps_set (i := 2) ndQ rfl (Or.inl rfl) (pe_op op_cat (pe_slice sl_list (pv 2) po_none (po_some (pv 6))) (pe_lst (pa_cons (pe_tup (pa_cons (pv 4) (pa_cons (pe_ix ix_list (pv 3) (pv 6) (fun _ _ => rfl)) pa_nil))) pa_nil))))
        (pss_cons (ps_asg (pe_op op_add (pe_ix ix_list (pv 3) (pv 6) (fun _ _ => rfl)) pe_int) (pg_sub (pv 3) (pv 6) set_list))
        (pss_one (ps_for PassesOwn.never rfl (pi_enum (by rfl) T.enum (pa_cons (pv 2) pa_nil)) (pg_tup rfl (pgs_cons (pg_name (i := 7) ndQ rfl (Or.inl rfl)) (pgs_cons (pg_tup rfl (pgs_cons (pg_name (i := 8) ndQ rfl (Or.inl rfl)) (pgs_cons (pg_name (i := 9) ndQ rfl (Or.inl rfl)) pgs_nil))) pgs_nil)))
          (pss_one (ps_expr (pe_bm PySem.F.plainAttrs_list PySem.F.slot_list_append PySem.F.type_list_append mt_append (pv 1) (pa_cons (pe_tup (pa_cons (pv 8) (pa_cons (pv 4) (pa_cons (pe_op op_sub (pv 6) (pv 7)) (pa_cons (pv 9) (pa_cons (pv 5) pa_nil)))))) pa_nil))))))))))
      (pss_one (ps_ret (pe_callB (cr_sortD hr.units) (by rfl) T.sorted (by decide +kernel) (pa_cons (pv 1) pa_nil))))), ?_⟩
    refine ⟨(by show 0 ≤ sizeLine; decide), fun f hf => ⟨(by show 0 ≤ sizeLine; decide), fun l hl => ⟨(by show 1 ≤ sizeLine; decide), fun z hz => ⟨z, 61, _, rfl, rfl, upd_same, by decide, by decide, (by show 1 * 61 ≤ sizeLine; decide), fun c hc => ⟨_, _, _, rfl, ?_⟩⟩⟩⟩⟩
    have sA : Same H (upd (upd (upd (upd H f (.lst [])) l (.lst [])) z (.lst [.int 0])) c (.lst (List.replicate (61 : Int).toNat [V.int 0]).flatten)) := (((Same.upd hf).trans (Same.upd hl)).trans (Same.upd hz)).trans (Same.upd hc)
    have ef : (upd (upd (upd (upd H f (.lst [])) l (.lst [])) z (.lst [.int 0])) c (.lst (List.replicate (61 : Int).toNat [V.int 0]).flatten)) f = some (.lst []) := (((Same.upd hl).trans (Same.upd hz)).trans (Same.upd hc)) _ _ upd_same
    have el : (upd (upd (upd (upd H f (.lst [])) l (.lst [])) z (.lst [.int 0])) c (.lst (List.replicate (61 : Int).toNat [V.int 0]).flatten)) l = some (.lst []) := ((Same.upd hz).trans (Same.upd hc)) _ _ upd_same
    have ec : (upd (upd (upd (upd H f (.lst [])) l (.lst [])) z (.lst [.int 0])) c (.lst (List.replicate (61 : Int).toNat [V.int 0]).flatten)) c = some (.lst ((List.replicate 61 (0 : Int)).map V.int)) := by
      rw [upd_same, rep_one, List.map_replicate]
      rfl
    generalize upd (upd (upd (upd H f (.lst [])) l (.lst [])) z (.lst [.int 0])) c (.lst (List.replicate (61 : Int).toNat [V.int 0]).flatten) = H1 at sA ef el ec ⊢
    have hXl : X.length = (xrs X).length := (List.length_map _).symm
    have hpf := FR.pfold_inv F.len F.nd F.vl F.lv
    refine ⟨_, rfl, a, b, _, rfl, sA _ _ ha, fun J Wk => for_it Wk (fun i σ H' => ∃ (l c : Addr) (v4 v5 v6 v7 v8 v9 : Option V), σ = [some (.ref a), some (.ref f), some (.ref l), some (.ref c), v4, v5, v6, v7, v8, v9] ∧ Same H H' ∧
        (∃ Ln : LL, H' l = some (.lst (lrefs Ln)) ∧ LTups H' Ln ∧ Ln.map (·.2) = (((xrs X).take i).foldl pstep pstart).1) ∧ H' c = some (.lst ((((xrs X).take i).foldl pstep pstart).2.1.map V.int)) ∧
        ∃ M : RL, H' f = some (.lst (refs M)) ∧ Tups H' M ∧ rws M = (((xrs X).take i).foldl pstep pstart).2.2)
      ⟨l, c, _, _, _, _, _, _, rfl, sA, ⟨[], el, (fun q hq => absurd hq (by simp)), rfl⟩, ec, [], ef, (fun q hq => absurd hq (by simp)), rfl⟩ (fun i σ H' _ h => by obtain ⟨_, _, _, _, _, _, _, _, _, s, _⟩ := h; exact s _ _ ha) ?_ ?_⟩
    · rintro i x σ H2' H2 hi ⟨l, c, v4, v5, v6, v7, v8, v9, rfl, s2, ⟨Ln, el, tl, mLn⟩, ec, M, ef, tM, mM⟩ ⟨rfl, hx⟩
      obtain ⟨q, hq, rfl⟩ : ∃ q, X[i]? = some q ∧ x = .ref q.1 := by
        unfold xrefs at hx
        rw [List.getElem?_map] at hx
        cases e : X[i]? with
        | none => rw [e] at hx; cases hx
        | some q => rw [e] at hx; exact ⟨q, rfl, (Option.some.inj hx).symm⟩
      have hqx : (xrs X)[i]? = some q.2 := by unfold xrs; rw [List.getElem?_map, hq]; rfl
      have hrow := s2 _ _ (hX q (List.mem_of_getElem? hq))
      have hiX : i < (xrs X).length := (List.getElem?_eq_some_iff.mp hqx).1
      have I := hpf i (Nat.le_of_lt hiX)
      have hstep := FR.pstep_inv F.len F.nd F.vl F.lv hqx I
      have eN : ((xrs X).take (i + 1)).foldl pstep pstart = pstep (((xrs X).take i).foldl pstep pstart) q.2 := by rw [FR.take_snoc hqx, List.foldl_append]; rfl
      rw [eN]
      generalize hst : ((xrs X).take i).foldl pstep pstart = st at mLn ec mM I hstep ⊢
      obtain ⟨lin, cs, fnd⟩ := st
      obtain ⟨qa, n, v, lv⟩ := q
      simp only at mLn ec mM I hstep hrow hqx ⊢
      have hcl : cs.length = 61 := I.cl
      have hll : lin.length ≤ i := I.ll
      have hlv : lv ≤ lin.length := hstep.1
      have hlv60 : lv ≤ 60 := by have := F.len; omega
      have hLn : Ln.length = lin.length := by rw [← mLn, List.length_map]
      refine ⟨qa, cells3 (n, v, lv), rfl, SqT.of hrow, rfl, _, _, rfl, _, _, rfl, _, _, rfl, rfl, ?_⟩
      -- counts
      refine ⟨_, rfl, _, rfl, _, _, rfl, rfl, _, rfl, c, _, rfl, SqL.of ec, fun p1 h1 => ⟨(by show 1 ≤ sizeLine; decide), fun z hz => ⟨_, rfl, _, _, rfl, rfl, z, _, _, rfl, rfl, upd_same, (by show -(2 ^ 63) ≤ (60 : Int) - (lv : Int); omega), (by show (60 : Int) - (lv : Int) < 2 ^ 63; omega), (by show 1 * ((60 : Int) - (lv : Int)).toNat ≤ sizeLine; exact Nat.le_of_lt (small1830 (by omega))), fun p2 h2 => ?_⟩⟩⟩
      have eCut : cutV (cs.map V.int) none (some ((lv : Int) + 1)) = (cs.map V.int).take (lv + 1) := cutV_pre (i := lv + 1) (by rw [List.length_map]; omega)
      have eRep : (List.replicate ((60 : Int) - (lv : Int)).toNat [V.int 0]).flatten = List.replicate (60 - lv) (V.int 0) := by
        rw [rep_one]
        congr 1
        omega
      have sB : Same H2 (upd (upd (upd H2 p1 (.lst (cutV (cs.map V.int) none (some ((lv : Int) + 1))))) z (.lst [.int 0])) p2 (.lst (List.replicate ((60 : Int) - (lv : Int)).toNat [V.int 0]).flatten)) := ((Same.upd h1).trans (Same.upd hz)).trans (Same.upd h2)
      have k1 : (upd (upd (upd H2 p1 (.lst (cutV (cs.map V.int) none (some ((lv : Int) + 1))))) z (.lst [.int 0])) p2 (.lst (List.replicate ((60 : Int) - (lv : Int)).toNat [V.int 0]).flatten)) p1 = some (.lst ((cs.map V.int).take (lv + 1))) := by rw [← eCut]; exact ((Same.upd hz).trans (Same.upd h2)) _ _ upd_same
      have k2 : (upd (upd (upd H2 p1 (.lst (cutV (cs.map V.int) none (some ((lv : Int) + 1))))) z (.lst [.int 0])) p2 (.lst (List.replicate ((60 : Int) - (lv : Int)).toNat [V.int 0]).flatten)) p2 = some (.lst (List.replicate (60 - lv) (V.int 0))) := by rw [← eRep]; exact upd_same
      generalize upd (upd (upd H2 p1 (.lst (cutV (cs.map V.int) none (some ((lv : Int) + 1))))) z (.lst [.int 0])) p2 (.lst (List.replicate ((60 : Int) - (lv : Int)).toNat [V.int 0]).flatten) = H3 at sB k1 k2 ⊢
      refine ⟨p1, p2, _, _, rfl, rfl, k1, k2, ?_, fun p3 h3 => ?_⟩
      · rw [List.length_take, List.length_map, List.length_replicate]
        exact Nat.le_of_lt (small1830 (by omega))
      obtain ⟨cs', hcs'⟩ : ∃ cs', cs' = cs.take (lv + 1) ++ List.replicate (60 - lv) 0 := ⟨_, rfl⟩
      have eCs : (cs.map V.int).take (lv + 1) ++ List.replicate (60 - lv) (V.int 0) = cs'.map V.int := by
        rw [hcs', List.map_append, List.map_take, List.map_replicate]
      have lcs : cs'.length = 61 := by
        rw [hcs', List.length_append, List.length_take, List.length_replicate]
        omega
      have sC : Same H3 (upd H3 p3 (.lst ((cs.map V.int).take (lv + 1) ++ List.replicate (60 - lv) (V.int 0)))) := Same.upd h3
      have k3 : (upd H3 p3 (.lst ((cs.map V.int).take (lv + 1) ++ List.replicate (60 - lv) (V.int 0)))) p3 = some (.lst (cs'.map V.int)) := by rw [← eCs]; exact upd_same
      have h30 : H2 p3 = none := sB.free h3
      generalize upd H3 p3 (.lst ((cs.map V.int).take (lv + 1) ++ List.replicate (60 - lv) (V.int 0))) = H4 at sC k3 ⊢
      have s24 := sB.trans sC
      have hget : cs'[lv]? = some (cs'.getD lv 0) := by
        rw [List.getD_eq_getElem?_getD, List.getElem?_eq_getElem (by omega)]
        rfl
      have hget2 : (cs'.map V.int)[lv]? = some (V.int (cs'.getD lv 0)) := by rw [List.getElem?_map, hget]; rfl
      generalize hcnt : cs'.getD lv 0 = cnt at hget hget2
      -- line
      refine ⟨_, rfl, _, rfl, _, rfl, l, _, rfl, SqL.of (s24 _ _ el), fun p4 h4 => ?_⟩
      have eCut2 : cutV (lrefs Ln) none (some (lv : Int)) = (lrefs Ln).take lv := cutV_pre (by unfold lrefs; rw [List.length_map]; show lv ≤ Ln.length; omega)
      have sD : Same H4 (upd H4 p4 (.lst (cutV (lrefs Ln) none (some (lv : Int))))) := Same.upd h4
      have k4 : (upd H4 p4 (.lst (cutV (lrefs Ln) none (some (lv : Int))))) p4 = some (.lst ((lrefs Ln).take lv)) := by rw [← eCut2]; exact upd_same
      generalize upd H4 p4 (.lst (cutV (lrefs Ln) none (some (lv : Int)))) = H5 at sD k4 ⊢
      refine ⟨_, rfl, _, rfl, _, rfl, p3, _, _, _, rfl, rfl, SqL.of (sD _ _ k3), atI_nat hget2, (by show 2 ≤ sizeLine; decide), fun t ht => ⟨(by show 1 ≤ sizeLine; decide), fun p5 h5 => ?_⟩⟩
      have sE : Same H5 (upd (upd H5 t (.tup [.str n, .int cnt])) p5 (.lst [.ref t])) := (Same.upd ht).trans (Same.upd h5)
      have kt : (upd (upd H5 t (.tup [.str n, .int cnt])) p5 (.lst [.ref t])) t = some (.tup [.str n, .int cnt]) := (Same.upd h5) _ _ upd_same
      have k5 : (upd (upd H5 t (.tup [.str n, .int cnt])) p5 (.lst [.ref t])) p5 = some (.lst [.ref t]) := upd_same
      generalize upd (upd H5 t (.tup [.str n, .int cnt])) p5 (.lst [.ref t]) = H6 at sE kt k5 ⊢
      refine ⟨p4, p5, _, _, rfl, rfl, sE _ _ k4, k5, ?_, fun p6 h6 => ?_⟩
      · rw [List.length_take]
        unfold lrefs
        rw [List.length_map]
        have hb : min lv Ln.length + 1 ≤ 3660 := by omega
        exact Nat.le_of_lt (small1830 hb)
      obtain ⟨Ln', hLn'⟩ : ∃ Ln' : LL, Ln' = Ln.take lv ++ [(t, (n, cnt))] := ⟨_, rfl⟩
      have eLn : (lrefs Ln).take lv ++ [V.ref t] = lrefs Ln' := by
        rw [hLn']
        unfold lrefs
        rw [List.map_append, List.map_take]
        rfl
      have sF : Same H6 (upd H6 p6 (.lst ((lrefs Ln).take lv ++ [V.ref t]))) := Same.upd h6
      have k6 : (upd H6 p6 (.lst ((lrefs Ln).take lv ++ [V.ref t]))) p6 = some (.lst (lrefs Ln')) := by rw [← eLn]; exact upd_same
      generalize upd H6 p6 (.lst ((lrefs Ln).take lv ++ [V.ref t])) = H7 at sF k6 ⊢
      have s27 := s24.trans ((sD.trans sE).trans sF)
      have k37 := sF _ _ (sE _ _ (sD _ _ k3))
      -- counts[level]
      refine ⟨_, rfl, _, rfl, p3, _, _, _, rfl, rfl, SqL.of k37, atI_nat hget2, _, _, rfl, rfl, ?_⟩
      refine ⟨_, rfl, _, rfl, p3, _, _, lv, rfl, rfl, k37, ixN_nat (by rw [List.length_map]; show lv < cs'.length; omega), ?_⟩
      have eSet : (cs'.map V.int).set lv (V.int (cnt + 1)) = (cs'.set lv (cnt + 1)).map V.int := by rw [List.map_set]
      have k8 : (upd H7 p3 (.lst ((cs'.map V.int).set lv (V.int (cnt + 1))))) p3 = some (.lst ((cs'.set lv (cnt + 1)).map V.int)) := by rw [← eSet]; exact upd_same
      have b8 : But p3 H7 (upd H7 p3 (.lst ((cs'.map V.int).set lv (V.int (cnt + 1))))) := (But.refl p3 H7).put
      generalize upd H7 p3 (.lst ((cs'.map V.int).set lv (V.int (cnt + 1)))) = H8 at k8 b8 ⊢
      have s28 : Same H2 H8 := fun b o e => b8 _ _ (s27 _ _ e) (ne_of_none e h30)
      have np63 : p6 ≠ p3 := fun z => by
        have e1 : H6 p3 = some (.lst (cs'.map V.int)) := sE _ _ (sD _ _ k3)
        rw [← z, h6] at e1
        cases e1
      have k68 := b8 _ _ k6 np63
      have ef8 := s28 _ _ ef
      have tM8 : Tups H8 M := tM.same s28
      have tL8 : LTups H8 Ln' := by
        intro q hq
        rw [hLn'] at hq
        rcases List.mem_append.mp hq with e | e
        · exact s28 _ _ (tl q (List.mem_of_mem_take e))
        · rw [List.mem_singleton.mp e]
          exact b8 _ _ (sF _ _ kt) (fun y => by
            have e1 : H6 p3 = some (.lst (cs'.map V.int)) := sE _ _ (sD _ _ k3)
            rw [← y, kt] at e1
            cases e1)
      have eLin : Ln'.map (·.2) = lin.take lv ++ [(n, cnt)] := by
        rw [hLn', List.map_append, List.map_take, mLn]
        rfl
      have nfp : f ≠ p3 := ne_of_none ef h30
      have nf6 : f ≠ p6 := fun z => by
        have e1 := sE _ _ (sD _ _ (s24 _ _ ef))
        rw [z, h6] at e1
        cases e1
      have hfnd : fnd.length ≤ 3600 := by have := I.fl; have := F.len; simp only at *; omega
      have lM : M.length = fnd.length := by rw [← mM, rws_len]
      have lL' : Ln'.length ≤ 61 := by rw [hLn', List.length_append, List.length_take, List.length_singleton]; omega
      -- the inner loop
      have lLr : (lrefs Ln').length = Ln'.length := List.length_map _
      refine ⟨_, rfl, p6, _, rfl, SqL.of k68, for_it (walk_enum (xs := lrefs Ln')) (fun j σ H' => (∃ v7 v8 v9 : Option V, σ = [some (.ref a), some (.ref f), some (.ref p6), some (.ref p3), some (.str n), some (.int v), some (.int (lv : Nat)), v7, v8, v9]) ∧ But f H8 H' ∧
          ∃ M' : RL, H' f = some (.lst (refs M')) ∧ Tups H' M' ∧ rws M' = fnd ++ ((Ln'.map (·.2)).zipIdx.take j).map fun q => (⟨q.1.1, n, (lv : Int) - q.2, q.1.2, v⟩ : Rw))
        ⟨⟨_, _, _, rfl⟩, But.refl f H8, M, ef8, tM8, by rw [List.take_zero, List.map_nil, List.append_nil]; exact mM⟩ (fun j σ H' _ h => SqL.of (h.2.1 _ _ k68 nf6.symm)) ?_ ?_⟩
      · rintro j x σ H9 H10 hj ⟨⟨v7, v8, v9, rfl⟩, b9, M', ef9, tM9, mM9⟩ ⟨T, _, _, rfl, hT, rfl, hc, hx⟩
        cases hc
        rw [lLr] at hj
        have hx : (lrefs Ln')[j]? = some _ := hx
        obtain ⟨q, hq, rfl⟩ : ∃ q, Ln'[j]? = some q ∧ _ = V.ref q.1 := by
          unfold lrefs at hx
          rw [List.getElem?_map] at hx
          cases e : Ln'[j]? with
          | none => rw [e] at hx; cases hx
          | some q => rw [e] at hx; exact ⟨q, rfl, (Option.some.inj hx).symm⟩
        have hqm := List.mem_of_getElem? hq
        have qf : q.1 ≠ f := ne_of (tL8 q hqm) ef8 (by intro z; cases z)
        have kq9 := b9 _ _ (tL8 q hqm) qf
        have sT : Same H9 (upd H9 T (.tup [.int (j : Nat), .ref q.1])) := Same.upd hT
        refine ⟨T, _, rfl, SqT.of upd_same, rfl, _, _, rfl, _, _, rfl, q.1, _, rfl, SqT.of (sT _ _ kq9), rfl, _, _, rfl, _, _, rfl, rfl, rfl, ?_⟩
        generalize upd H9 T (.tup [.int (j : Nat), .ref q.1]) = H10 at sT ⊢
        have ef10 := sT _ _ ef9
        refine ⟨_, rfl, .inl ⟨rfl, _, SqL.of ef10⟩, _, rfl, _, rfl, _, rfl, _, rfl, _, _, rfl, rfl, _, rfl, _, rfl, (by show 5 ≤ sizeLine; decide), fun u hu => ?_⟩
        have sU : Same H10 (upd H10 u (.tup [.str q.2.1, .str n, .int ((lv : Int) - (j : Nat)), .int q.2.2, .int v])) := Same.upd hu
        have ku : (upd H10 u (.tup [.str q.2.1, .str n, .int ((lv : Int) - (j : Nat)), .int q.2.2, .int v])) u = some (.tup (cells ⟨q.2.1, n, (lv : Int) - (j : Nat), q.2.2, v⟩)) := upd_same
        generalize upd H10 u (.tup [.str q.2.1, .str n, .int ((lv : Int) - (j : Nat)), .int q.2.2, .int v]) = H11 at sU ku ⊢
        have ef11 := sU _ _ ef10
        have lM9 : M'.length ≤ 3661 := by
          have := congrArg List.length mM9
          rw [rws_len, List.length_append, List.length_map, List.length_take] at this
          omega
        have neF : ∀ (q : Addr) (xs : List V), H11 q = some (.tup xs) → q ≠ f := fun q xs e => ne_of e ef11 (by intro z; cases z)
        refine ⟨f, _, _, rfl, rfl, ef11, by rw [refs_len]; exact Nat.lt_of_le_of_lt lM9 (by decide), ⟨_, _, _, rfl⟩, ?_, M' ++ [(u, ⟨q.2.1, n, (lv : Int) - (j : Nat), q.2.2, v⟩)], ?_, ?_, ?_⟩
        · intro y o ey hy
          rw [upd_ne hy]
          exact sU _ _ (sT _ _ (b9 _ _ ey hy))
        · rw [upd_same]
          unfold refs
          rw [List.map_append]
          rfl
        · intro y hy
          rcases List.mem_append.mp hy with e | e
          · have e2 := sU _ _ (sT _ _ (tM9 y e))
            rw [upd_ne (neF _ _ e2)]
            exact e2
          · rw [List.mem_singleton.mp e, upd_ne (neF _ _ ku)]
            exact ku
        · have hz : ((Ln'.map (·.2)).zipIdx)[j]? = some (q.2, j) := by
            rw [List.getElem?_zipIdx, List.getElem?_map, hq]
            simp
          rw [FR.take_snoc hz, List.map_append, ← List.append_assoc, ← mM9]
          unfold rws
          rw [List.map_append]
          rfl
      · rintro σ H9 ⟨⟨v7, v8, v9, rfl⟩, b9, M', ef9, tM9, mM9⟩
        rw [lLr, show Ln'.length = ((Ln'.map (·.2)).zipIdx).length by simp, List.take_length] at mM9
        have hf2 : ∀ b o, H b = some o → b ≠ f := fun b o e => ne_of_none e hf
        refine ⟨p6, p3, _, _, _, _, _, _, rfl, fun b o e => b9 _ _ (s28 _ _ (s2 _ _ e)) (hf2 b o e), ⟨Ln', b9 _ _ k68 nf6.symm, fun q hq => b9 _ _ (tL8 q hq) (ne_of (tL8 q hq) ef8 (by intro z; cases z)), ?_⟩, ?_, M', ef9, tM9, ?_⟩
        · rw [eLin, ← hcnt, hcs']
          rfl
        · rw [b9 _ _ k8 nfp.symm, ← hcnt, hcs']
          rfl
        · rw [mM9, eLin, ← hcnt, hcs']
          rfl
    · rintro σ H2 ⟨l, c, v4, v5, v6, v7, v8, v9, rfl, s2, _, _, M, ef, tM, mM⟩
      have hXX : (xrefs X).length = (xrs X).length := by simp [xrefs, xrs]
      rw [hXX, List.take_length] at mM
      refine ⟨_, rfl, sort_use ef tM fun p hp => ?_⟩
      refine k p (sortL M) _ (s2.free hp) upd_same ?_ ?_ (s2.trans (Same.upd hp))
      · intro q hq
        have e := tM q (sortL_mem.mp hq)
        rw [upd_ne (ne_of_none e hp)]
        exact e
      · rw [sortL_rws, mM]
        rfl
end
end KW
end

section
set_option Elab.async false
set_option linter.all false
set_option maxRecDepth 100000
set_option maxHeartbeats 4000000
/-! The law: rows in a drawn order; a row looked up; the first parent. -/
namespace KW
open PySem PySem.Spec PyProof.Rows L2 KR
open FR (Ok Rows)
theorem map_erase {α β : Type} (f : α → β) : ∀ (l : List α) (k : Nat), (l.map f).eraseIdx k = (l.eraseIdx k).map f
  | [], _ => rfl
  | _ :: _, 0 => rfl
  | x :: t, k + 1 => by
    show f x :: (t.map f).eraseIdx k = f x :: (t.eraseIdx k).map f
    rw [map_erase f t k]
theorem refs_erase (L : RL) (k : Nat) : (refs L).eraseIdx k = refs (L.eraseIdx k) := by
  unfold refs
  exact map_erase _ L k
section
variable {P : Program} {w : World} {K : PySem.W.Frag} {mg : Str → Option Value} {base : Heap}
def spMixed : Sp := fun vs H Q _ => ∃ (w a : Addr) (n : Nat) (L : RL), vs = [.ref w, .ref a] ∧ WellAt H w n ∧ n ≤ 1000000 ∧ H a = some (.lst (refs L)) ∧ L.length ≤ 1000 ∧
  ∀ c (M : RL) H', H c = none → H' c = some (.lst (refs M)) → M.Perm L → WellAt H' w (n + L.length) → But w H H' → Q (.ref c) H'
abbrev NX : List Str := ["_law_well_here", "_law_some", "_law_left", "_law_found", "_law_turn"]
theorem ndX : NX.Nodup := by decide +kernel
theorem ok_mixed (T : TX K mg) : DfX P w K mg base 2 dMixed ["_law_well_here", "_law_some"] spMixed := by
  obtain ⟨fdD, GD⟩ := ok_draw (P := P) (w := w) (base := base) T
  refine df_mk T 15 rfl (N := NX) ⟨rfl, rfl, rfl, by decide +kernel, rfl, by decide +kernel, by decide +kernel⟩ (fun _ _ _ _ _ _ us hl => match us, hl with | [_, _], _ => rfl) (fun vs H Q E h => ?_) (fun cdv A outer s H vs Q E hr h => ?_)
  · obtain ⟨w, a, n, L, rfl, _⟩ := h
    rfl
  · obtain ⟨w, a, n, L, rfl, W, hn, ha, hl, k⟩ := h
    refine ⟨_, pss_cons (ps_par (i := 2) (j := 3) rfl ndX rfl rfl (by decide) rfl rfl (pa_cons (pe_callTy call_list_of (by rfl) T.list boot_list (pa_cons (pv 1) pa_nil)) (pa_cons (pe_lst pa_nil) pa_nil)) (by rfl))
      (pss_cons (ps_for PassesOwn.never rfl (pi_range1 (by rfl) T.range (pa_cons (pe_callB call_len_seq (by rfl) T.len PySem.boot_len (pa_cons (pv 1) pa_nil)) pa_nil)) (pg_name (i := 4) ndX rfl (Or.inl rfl))
        (pss_one (ps_expr (pe_bm PySem.F.plainAttrs_list PySem.F.slot_list_append PySem.F.type_list_append mt_append (pv 3) (pa_cons
          (pe_bm PySem.F.plainAttrs_list PySem.F.slot_list_pop PySem.F.type_list_pop mt_popAt (pv 2) (pa_cons (pe_call GD.ok hr rfl (T.gl 14 _ rfl) GD.kp GD.b .nil pass0 (pa_cons (pv 0) (pa_cons (pe_callB call_len_seq (by rfl) T.len PySem.boot_len (pa_cons (pv 2) pa_nil)) pa_nil))) pa_nil)) pa_nil)))))
      (pss_one (ps_ret (pv 3)))), ?_⟩
    refine ⟨_, rfl, a, _, rfl, .inl (SqL.of ha), fun l hl0 => ⟨(by show 0 ≤ sizeLine; decide), fun f hf => ⟨_, _, rfl, ?_⟩⟩⟩
    have s1 : Same H (upd (upd H l (.lst (refs L))) f (.lst [])) := (Same.upd hl0).trans (Same.upd hf)
    have el : (upd (upd H l (.lst (refs L))) f (.lst [])) l = some (.lst (refs L)) := (Same.upd hf) _ _ upd_same
    have ef : (upd (upd H l (.lst (refs L))) f (.lst [])) f = some (.lst []) := upd_same
    have hf0 : H f = none := (Same.upd (o := .lst (refs L)) hl0).free hf
    have nlf : l ≠ f := fun z => by rw [← z, upd_same] at hf; cases hf
    have nw : ∀ q : Addr, H q = none → q ≠ w := fun q hq z => by
      obtain ⟨_, _, _, e, _⟩ := W
      rw [z, e] at hq; cases hq
    have W1 := W.same s1
    generalize upd (upd H l (.lst (refs L))) f (.lst []) = H1 at s1 el ef W1 ⊢
    refine ⟨_, rfl, a, _, rfl, .inl (SqL.of (s1 _ _ ha)), ((refs L).length : Int), rfl, (by rw [refs_len]; omega), (by rw [refs_len]; omega), ?_⟩
    refine for_range (lo := 0) (n := (refs L).length) (fun i σ H' => (∃ v4, σ = [some (.ref w), some (.ref a), some (.ref l), some (.ref f), v4]) ∧ But w H H' ∧ WellAt H' w (n + i) ∧ ∃ Lf M : RL, H' l = some (.lst (refs Lf)) ∧ H' f = some (.lst (refs M)) ∧ (M ++ Lf).Perm L ∧ M.length = i)
      ⟨⟨_, rfl⟩, But.of s1, W1, L, [], el, ef, List.Perm.refl _, rfl⟩ ?_ ?_
    · rintro i σ H2 hi ⟨⟨v4, rfl⟩, b2, W2, Lf, M, el2, ef2, pm, lm⟩
      rw [refs_len] at hi
      have hlf : M.length + Lf.length = L.length := by
        have := pm.length_eq
        rw [List.length_append] at this
        exact this
      refine ⟨_, rfl, .inl ⟨rfl, _, SqL.of ef2⟩, _, rfl, .inl ⟨rfl, _, SqL.of el2⟩, _, rfl, _, rfl, l, _, rfl, .inl (SqL.of el2), ?_⟩
      refine ⟨w, _, n + i, rfl, W2, by omega, by rw [refs_len]; omega, by rw [refs_len]; omega, fun r H3 r0 r1 W3 b3 => ?_⟩
      rw [refs_len] at r1
      obtain ⟨j, q, hq, _, hj⟩ := at_int (xs := Lf) r0 r1
      subst hj
      have el3 := b3 _ _ el2 (nw l hl0)
      have ef3 := b3 _ _ ef2 (nw f hf0)
      have hjl : j < Lf.length := (List.getElem?_eq_some_iff.mp hq).1
      obtain ⟨j', hj1, hj2, _, _, _⟩ := atI_get (atI_nat (refs_of hq))
      have hjj : j' = j := by
        have e := ixN_seq (ixN_nat (n := (refs Lf).length) (l := j) (by rw [refs_len]; exact hjl))
        rw [e.1] at hj1
        exact (Option.some.inj hj1).symm
      subst hjj
      refine ⟨l, _, _, j', _, rfl, rfl, el3, by omega, by omega, hj1, refs_of hq, ?_⟩
      refine ⟨f, _, _, rfl, rfl, by rw [upd_ne nlf.symm]; exact ef3, by rw [refs_len]; exact small1830 (by omega), ⟨_, rfl⟩, ?_, ?_, Lf.eraseIdx j', M ++ [q], ?_, ?_, ?_, ?_⟩
      · exact ((b2.trans b3).own hl0).own hf0
      · obtain ⟨w0, w1, w2, ew, wr⟩ := W3
        exact ⟨w0, w1, w2, by rw [upd_ne (nw f hf0).symm, upd_ne (nw l hl0).symm]; exact ew, wr⟩
      · rw [upd_ne nlf, upd_same, refs_erase]
      · rw [upd_same]
        unfold refs
        rw [List.map_append]
        rfl
      · have := FR.erase_perm hq
        rw [List.append_assoc]
        exact ((List.Perm.append_left M this.symm)).trans pm
      · rw [List.length_append, lm]
        rfl
    · rintro σ H2 ⟨⟨v4, rfl⟩, b2, W2, Lf, M, el2, ef2, pm, lm⟩
      rw [refs_len] at lm W2
      have hlf : M.length + Lf.length = L.length := by
        have := pm.length_eq
        rw [List.length_append] at this
        exact this
      have e : Lf = [] := List.length_eq_zero_iff.mp (by omega)
      rw [e, List.append_nil] at pm
      exact ⟨_, rfl, k f M H2 hf0 ef2 pm W2 b2⟩
end
end KW
end

section
set_option Elab.async false
set_option linter.all false
set_option maxRecDepth 100000
set_option maxHeartbeats 4000000
/-! The law: a row looked up, the first parent, the line. -/
namespace KW
open PySem PySem.Spec PyProof.Rows L2 KR
open FR (Ok Rows ups)
/-- the law's list of rows -/
structure LR (H : Hp) (a : Addr) (L : RL) : Prop where
  sq : H a = some (.lst (refs L))
  rows : Tups H L
  len : L.length ≤ 1000
  nm : ∀ r ∈ rws L, NameOk r.a
theorem LR.same {H H' : Hp} {a : Addr} {L : RL} (h : LR H a L) (s : Same H H') : LR H' a L := ⟨s _ _ h.sq, h.rows.same s, h.len, h.nm⟩
theorem fm_ones {L : RL} (c : Rw → Prop) [DecidablePred c] : L.filterMap (fun q => if c q.2 then some (V.int 1) else none) = ((rws L).filter fun r => decide (c r)).map fun _ => V.int 1 := by
  unfold rws
  rw [List.filter_map, List.map_map, filterMap_ite]
  rfl
theorem fm_a {L : RL} (c : Rw → Prop) [DecidablePred c] : L.filterMap (fun q => if c q.2 then some (V.str q.2.a) else none) = (((rws L).filter fun r => decide (c r)).map (·.a)).map V.str := by
  unfold rws
  rw [List.filter_map, List.map_map, List.map_map, filterMap_ite]
  rfl
theorem any_filter {α : Type} (l : List α) (p : α → Bool) : (!(l.filter p).isEmpty) = l.any p := by
  induction l with
  | nil => rfl
  | cons x t ih =>
    cases h : p x with
    | true => rw [List.filter_cons_of_pos h, List.any_cons, h]; rfl
    | false => rw [List.filter_cons_of_neg (by simp [h]), List.any_cons, h, ih]; rfl
theorem mem_rws {L : RL} {q : Addr × Rw} (h : q ∈ L) : q.2 ∈ rws L := List.mem_map.mpr ⟨q, h, rfl⟩
section
variable {P : Program} {w : World} {K : PySem.W.Frag} {mg : Str → Option Value} {base : Heap}
def spHas : Sp := fun vs H Q _ => ∃ (a : Addr) (x y : Str) (s : Int) (L : RL), vs = [.ref a, .str x, .str y, .int s] ∧ LR H a L ∧ ∀ H', Same H H' → Q (.bl (FR.has (rws L) x y s)) H'
abbrev NH : List Str := ["_law_rows_here", "_law_above", "_law_below", "_law_steps", "_law_row"]
theorem ndH : NH.Nodup := by decide +kernel
theorem ok_has (T : TX K mg) : DfX P w K mg base 1 dHas ["_law_rows_here", "_law_above", "_law_below", "_law_steps"] spHas := by
  refine df_mk T 16 rfl (N := NH) ⟨rfl, rfl, rfl, by decide +kernel, rfl, by decide +kernel, by decide +kernel⟩ (fun _ _ _ _ _ _ us hl => match us, hl with | [_, _, _, _], _ => rfl) (fun vs H Q E h => ?_) (fun cdv A outer s H vs Q E hr h => ?_)
  · obtain ⟨a, x, y, s, L, rfl, _⟩ := h
    rfl
  · obtain ⟨a, x, y, s, L, rfl, R, k⟩ := h
    refine ⟨_, pss_one (ps_ret (pe_cmpR (op_neD hr.units) (pe_lc (own := [("_law_row", 4)]) (g := gName 4) rfl ndH (pi_list (pv 0)) (blkOk_by (N := NH) (sc := dHas.scope) (by decide +kernel))
      (fun _ _ _ _ _ => pg_name (i := 4) ndH rfl (Or.inl rfl))
      (fun _ _ _ _ _ => pts_one (PW.pt (pw_and (pt_cmpR op_eq (pe_ix (ix_tupK K rfl) (pv 4) pe_int (fun _ _ => rfl)) (pv 1) (nomark _)) (pw_and (pt_cmpR op_eq (pe_ix (ix_tupK K rfl) (pv 4) pe_int (fun _ _ => rfl)) (pv 2) (nomark _)) (pw_and1 (pt_cmpR op_eq (pe_ix (ix_tupK K rfl) (pv 4) pe_int (fun _ _ => rfl)) (pv 3) (nomark _)))))))
      (fun _ _ _ _ _ => pe_int)) (pe_lst pa_nil) (nomark _))), ?_⟩
    refine ⟨_, rfl, a, rfl, ⟨_, SqL.of R.sq⟩, fun D hD => ?_⟩
    refine lc_map L (fun q => if q.2.a = x ∧ q.2.b = y ∧ q.2.s = s then some (V.int 1) else none) (walk_map _ (fun q : Addr × Rw => V.ref q.1)) hD (by have := R.len; exact small1830 (by omega)) (fun H2 s2 => SqL.of (s2 _ _ R.sq)) ?_ ?_
    · rintro j n v H2 H3 Rr N hn s2 ⟨rfl, hx⟩ hR hN
      obtain rfl := map_at hn hx
      have hrow := s2 _ _ (R.rows n (List.mem_of_getElem? hn))
      refine ⟨rfl, _, rfl, n.1, cells n.2, 0, _, rfl, rfl, SqT.of hrow, rfl, _, rfl, rfl, _, rfl, iteC (fun e => ?_) (fun e => ?_)⟩
      · refine ⟨_, rfl, n.1, cells n.2, 1, _, rfl, rfl, SqT.of hrow, rfl, _, rfl, rfl, _, rfl, iteC (fun e1 => ?_) (fun e1 => ?_)⟩
        · refine ⟨_, rfl, n.1, cells n.2, 2, _, rfl, rfl, SqT.of hrow, rfl, _, rfl, rfl, _, rfl, iteC (fun e2 => ?_) (fun e2 => ?_)⟩
          · exact hR _ _ (if_pos ⟨V.str.inj e, V.str.inj e1, V.int.inj e2⟩) (Same.refl _)
          · exact hN _ (if_neg fun z => e2 (by rw [z.2.2])) (Same.refl _)
        · exact iteF (hN _ (if_neg fun z => e1 (by rw [z.2.1])) (Same.refl _))
      · exact iteF (hN _ (if_neg fun z => e (by rw [z.1])) (Same.refl _))
    · intro H2 s2 e2
      rw [fm_ones (fun r => r.a = x ∧ r.b = y ∧ r.s = s)] at e2
      refine ⟨(by show 0 ≤ sizeLine; decide), fun z hz => ?_⟩
      have s3 : Same H2 (upd H2 z (.lst [])) := Same.upd hz
      refine ne_nil (f := fun _ : Rw => V.int 1) (g := fun _ => .int 1) (s3 _ _ e2) upd_same (fun _ _ => .int 1) (fun _ _ => lay_int 1) ?_
      have := k _ (s2.trans s3)
      have e : FR.has (rws L) x y s = (!((rws L).filter fun r => decide (r.a = x ∧ r.b = y ∧ r.s = s)).isEmpty) := by
        rw [any_filter]
        unfold FR.has
        congr 1
        funext r
        rw [Bool.eq_iff_iff]
        simp [and_assoc]
      rw [e] at this
      exact this
def spParent : Sp := fun vs H Q _ => ∃ (a : Addr) (x : Str) (L : RL), vs = [.ref a, .str x] ∧ LR H a L ∧ ∀ H', Same H H' → Q (uV (FR.parent (rws L) x)) H'
abbrev NPa : List Str := ["_law_rows_here", "_law_name", "_law_found", "_law_row"]
theorem ndPa : NPa.Nodup := by decide +kernel
theorem ups_eq (L : RL) (n : Str) : (((rws L).filter fun r => decide (r.b = n ∧ r.s = 1)).map (·.a)) = ups (rws L) n := by
  unfold ups
  congr 1
  apply List.filter_congr
  intro r _
  rw [Bool.eq_iff_iff]
  simp
theorem ok_parent (T : TX K mg) : DfX P w K mg base 1 dParent ["_law_rows_here", "_law_name"] spParent := by
  refine df_mk T 17 rfl (N := NPa) ⟨rfl, rfl, rfl, by decide +kernel, rfl, by decide +kernel, by decide +kernel⟩ (fun _ _ _ _ _ _ us hl => match us, hl with | [_, _], _ => rfl) (fun vs H Q E h => ?_) (fun cdv A outer s H vs Q E hr h => ?_)
  · obtain ⟨a, x, L, rfl, _⟩ := h
    rfl
  · obtain ⟨a, x, L, rfl, R, k⟩ := h
    refine ⟨_, pss_cons (ps_setLc (i := 2) (own := [("_law_row", 3)]) (g := gName 3) rfl ndPa rfl rfl (sw_true rfl rfl rfl (by decide +kernel)) (pi_list (pv 0)) (blkOk_by (N := NPa) (sc := dParent.scope) (by decide +kernel))
      (fun _ _ _ _ _ => pg_name (i := 3) ndPa rfl (Or.inl rfl))
      (fun _ _ _ _ _ => pts_one (PW.pt (pw_and (pt_cmpR op_eq (pe_ix (ix_tupK K rfl) (pv 3) pe_int (fun _ _ => rfl)) (pv 1) (nomark _)) (pw_and1 (pt_cmpR op_eq (pe_ix (ix_tupK K rfl) (pv 3) pe_int (fun _ _ => rfl)) pe_int (nomark _))))))
      (fun _ _ _ _ _ => pe_ix (ix_tupK K rfl) (pv 3) pe_int (fun _ _ => rfl)))
      (pss_one (ps_ret (pe_ifExp (pt_cmpR (op_neD hr.units) (pv 2) (pe_lst pa_nil) (nomark _)) (pe_ix ix_list (pv 2) pe_int (fun _ _ => rfl)) pe_non))), ?_⟩
    refine ⟨_, rfl, a, rfl, ⟨_, SqL.of R.sq⟩, fun D hD => ?_⟩
    refine lc_map L (fun q => if q.2.b = x ∧ q.2.s = 1 then some (V.str q.2.a) else none) (walk_map _ (fun q : Addr × Rw => V.ref q.1)) hD (by have := R.len; exact small1830 (by omega)) (fun H2 s2 => SqL.of (s2 _ _ R.sq)) ?_ ?_
    · rintro j n v H2 H3 Rr N hn s2 ⟨rfl, hx⟩ hR hN
      obtain rfl := map_at hn hx
      have hrow := s2 _ _ (R.rows n (List.mem_of_getElem? hn))
      refine ⟨rfl, _, rfl, n.1, cells n.2, 1, _, rfl, rfl, SqT.of hrow, rfl, _, rfl, rfl, _, rfl, iteC (fun e => ?_) (fun e => ?_)⟩
      · refine ⟨_, rfl, n.1, cells n.2, 2, _, rfl, rfl, SqT.of hrow, rfl, rfl, _, rfl, iteC (fun e2 => ?_) (fun e2 => ?_)⟩
        · exact ⟨_, rfl, n.1, cells n.2, 0, _, rfl, rfl, SqT.of hrow, rfl, hR _ _ (if_pos ⟨V.str.inj e, V.int.inj e2⟩) (Same.refl _)⟩
        · exact hN _ (if_neg fun z => e2 (by rw [z.2])) (Same.refl _)
      · exact iteF (hN _ (if_neg fun z => e (by rw [z.1])) (Same.refl _))
    · intro H2 s2 e2
      rw [fm_a (fun r => r.b = x ∧ r.s = 1), ups_eq] at e2
      refine ⟨_, rfl, (by show 0 ≤ sizeLine; decide), fun z hz => ?_⟩
      have s3 : Same H2 (upd H2 z (.lst [])) := Same.upd hz
      have hnm : ∀ n ∈ ups (rws L) x, PyData.strOk n = true := fun n hn => by
        obtain ⟨r, hr, e, _⟩ := FR.mem_ups.mp hn
        exact e ▸ name_str (R.nm r hr)
      refine ne_nil (f := V.str) (g := fun z => .str z) (s3 _ _ e2) upd_same (fun x _ => .str x) (fun n hn => lay_str (hnm n hn)) ⟨_, rfl, ?_⟩
      have e3 := s3 _ _ e2
      have := k _ (s2.trans s3)
      unfold FR.parent at this
      cases hu : ups (rws L) x with
      | nil =>
        rw [hu] at this
        exact iteF this
      | cons n t =>
        rw [hu] at this e3
        exact iteT ⟨_, rfl, D, _, 0, _, rfl, rfl, SqL.of e3, atI_nat (j := 0) rfl, this⟩
end
end KW
end

section
set_option Elab.async false
set_option linter.all false
set_option maxRecDepth 100000
set_option maxHeartbeats 4000000
/-! The law: the line, the order. -/
namespace KW
open PySem PySem.Spec PyProof.Rows L2 KR
open FR (Ok Rows ups)
theorem refs_take (L : RL) (i : Nat) : (refs L).take i = refs (L.take i) := by
  unfold refs
  rw [List.map_take]
theorem rws_take (L : RL) (i : Nat) : (rws L).take i = rws (L.take i) := by
  unfold rws
  rw [List.map_take]
section
variable {P : Program} {w : World} {K : PySem.W.Frag} {mg : Str → Option Value} {base : Heap}
/-- a question about a row -/
def spLp (f : Rows Str → Nat → Rw → Bool) : Sp := fun vs H Q _ => ∃ (a : Addr) (i : Nat) (L : RL) (r : Rw), vs = [.ref a, .int (i : Nat)] ∧ LR H a L ∧ (rws L)[i]? = some r ∧ ∀ H', Same H H' → Q (.bl (f (rws L) i r)) H'
abbrev NL : List Str := ["_law_rows_here", "_law_place", "_law_above", "_law_below", "_law_steps", "_law_some", "_law_row", "_law_name"]
theorem ndL : NL.Nodup := by decide +kernel
theorem ok_linew (T : TX K mg) : DfX P w K mg base 2 dLineW ["_law_rows_here", "_law_place"] (spLp fun rs i r => FR.lawLine rs i r) := by
  obtain ⟨fdH, GH⟩ := ok_has (P := P) (w := w) (base := base) T
  refine df_mk T 18 rfl (N := NL) ⟨rfl, rfl, rfl, by decide +kernel, rfl, by decide +kernel, by decide +kernel⟩ (fun _ _ _ _ _ _ us hl => match us, hl with | [_, _], _ => rfl) (fun vs H Q E h => ?_) (fun cdv A outer s H vs Q E hr h => ?_)
  · obtain ⟨a, i, L, r, rfl, _⟩ := h
    rfl
  · obtain ⟨a, i, L, r, rfl, R, hi, k⟩ := h
    have k : ∀ H', Same H H' → Q (.bl (FR.lawLine (rws L) i r)) H' := k
    obtain ⟨q, hq, eq⟩ := row_at R.rows hi
    have hlen := R.len
    refine ⟨_, pss_cons (ps_asg (pe_slice sl_tup (pe_ix ix_list (pv 0) (pv 1) (fun _ _ => rfl)) po_none (po_some pe_int)) (pg_tup rfl (pgs_cons (pg_name (i := 2) ndL rfl (Or.inr rfl)) (pgs_cons (pg_name (i := 3) ndL rfl (Or.inr rfl)) (pgs_cons (pg_name (i := 4) ndL rfl (Or.inr rfl)) pgs_nil)))))
      (pss_cons (ps_if (pt_cmpR op_eq (pv 4) pe_int (nomark _)) (pss_one (ps_ret (pe_cmpR (op_neD hr.units) (pe_lc (own := [("_law_row", 6)]) (g := gName 6) rfl ndL (pi_list (pe_slice sl_list (pv 0) po_none (po_some (pv 1)))) (blkOk_by (N := NL) (sc := dLineW.scope) (by decide +kernel))
          (fun _ _ _ _ _ => pg_name (i := 6) ndL rfl (Or.inl rfl))
          (fun _ _ _ _ _ => pts_one (PW.pt (pw_and (pt_cmpR op_eq (pe_ix (ix_tupK K rfl) (pv 6) pe_int (fun _ _ => rfl)) (pv 3) (nomark _)) (pw_and1 (pt_cmpR op_eq (pe_ix (ix_tupK K rfl) (pv 6) pe_int (fun _ _ => rfl)) pe_int (nomark _))))))
          (fun _ _ _ _ _ => pe_int)) (pe_lst pa_nil) (nomark _)))) pss_nil)
      (pss_cons (ps_if (pt_cmpR op_eq (pv 4) pe_int (nomark _)) (pss_one (ps_ret pe_bl)) pss_nil)
      (pss_cons (ps_setLc (i := 5) (own := [("_law_row", 6)]) (g := gName 6) rfl ndL rfl rfl (sw_true rfl rfl rfl (by decide +kernel)) (pi_list (pv 0)) (blkOk_by (N := NL) (sc := dLineW.scope) (by decide +kernel))
          (fun _ _ _ _ _ => pg_name (i := 6) ndL rfl (Or.inl rfl))
          (fun _ _ _ _ _ => pts_one (PW.pt (pw_and (pt_cmpR op_eq (pe_ix (ix_tupK K rfl) (pv 6) pe_int (fun _ _ => rfl)) (pv 3) (nomark _)) (pw_and1 (pt_cmpR op_eq (pe_ix (ix_tupK K rfl) (pv 6) pe_int (fun _ _ => rfl)) pe_int (nomark _))))))
          (fun _ _ _ _ _ => pe_ix (ix_tupK K rfl) (pv 6) pe_int (fun _ _ => rfl)))
      (pss_one (ps_ret (pe_cmpR (op_eqD hr.units) (pe_lc (own := [("_law_name", 7)]) (g := gName 7) rfl ndL (pi_list (pv 5)) (blkOk_by (N := NL) (sc := dLineW.scope) (by decide +kernel))
          (fun _ _ _ _ _ => pg_name (i := 7) ndL rfl (Or.inl rfl))
          (fun _ _ _ _ _ => pts_one (pt_val (pe_call GH.ok hr rfl (T.gl 22 _ rfl) GH.kp GH.b .nil pass0 (pa_cons (pv 0) (pa_cons (pv 2) (pa_cons (pv 7) (pa_cons (pe_op op_sub (pv 4) pe_int) pa_nil)))))))
          (fun _ _ _ _ _ => pv 7)) (pe_lst pa_nil) (nomark _))))))), ?_⟩
    refine ⟨_, rfl, _, rfl, a, _, _, _, rfl, rfl, SqL.of R.sq, atI_nat hq, 3, rfl, q, cells r, rfl, SqT.of eq, (by show ¬ (HT.sIx 5 0 none = 0 ∧ HT.sIx 5 5 (some 3) = 5); decide), fun c hc => ?_⟩
    have s1 : Same H (upd H c (.tup (cutV (cells r) none (some 3)))) := Same.upd hc
    have ec : (upd H c (.tup (cutV (cells r) none (some 3)))) c = some (.tup [V.str r.a, V.str r.b, V.int r.s]) := upd_same
    generalize upd H c (.tup (cutV (cells r) none (some 3))) = H1 at s1 ec ⊢
    refine ⟨c, _, rfl, SqT.of ec, rfl, _, _, rfl, _, _, rfl, _, _, rfl, rfl, ?_⟩
    have R1 := R.same s1
    refine ⟨_, rfl, rfl, _, rfl, iteC (fun e => ?_) (fun e => ?_)⟩
    · have hs : r.s = 1 := V.int.inj e
      refine ⟨_, rfl, _, rfl, _, rfl, a, _, rfl, SqL.of R1.sq, fun p hp => ?_⟩
      have s2 : Same H1 (upd H1 p (.lst (cutV (refs L) none (some (i : Int))))) := Same.upd hp
      have ep : (upd H1 p (.lst (cutV (refs L) none (some (i : Int))))) p = some (.lst (refs (L.take i))) := by
        rw [upd_same, cutV_pre (by rw [refs_len]; have := (List.getElem?_eq_some_iff.mp hi).1; rw [rws_len] at this; omega), refs_take]
      generalize upd H1 p (.lst (cutV (refs L) none (some (i : Int)))) = H2 at s2 ep ⊢
      refine ⟨p, rfl, ⟨_, SqL.of ep⟩, fun D hD => ?_⟩
      refine lc_map (L.take i) (fun q => if q.2.b = r.b ∧ q.2.s = 1 then some (V.int 1) else none) (walk_map _ (fun q : Addr × Rw => V.ref q.1)) hD (by rw [List.length_take]; exact small1830 (by omega)) (fun H3 s3 => SqL.of (s3 _ _ ep)) ?_ ?_
      · rintro j n v H4 H3 Rr N hn s3 ⟨rfl, hx⟩ hR hN
        obtain rfl := map_at hn hx
        have hrow := s3 _ _ (s2 _ _ (R1.rows n (List.mem_of_mem_take (List.mem_of_getElem? hn))))
        refine ⟨rfl, _, rfl, n.1, cells n.2, 1, _, rfl, rfl, SqT.of hrow, rfl, _, rfl, rfl, _, rfl, iteC (fun e => ?_) (fun e => ?_)⟩
        · refine ⟨_, rfl, n.1, cells n.2, 2, _, rfl, rfl, SqT.of hrow, rfl, rfl, _, rfl, iteC (fun e2 => ?_) (fun e2 => ?_)⟩
          · exact hR _ _ (if_pos ⟨V.str.inj e, V.int.inj e2⟩) (Same.refl _)
          · exact hN _ (if_neg fun z => e2 (by rw [z.2])) (Same.refl _)
        · exact iteF (hN _ (if_neg fun z => e (by rw [z.1])) (Same.refl _))
      · intro H3 s3 e3
        rw [fm_ones (fun q => q.b = r.b ∧ q.s = 1)] at e3
        refine ⟨(by show 0 ≤ sizeLine; decide), fun z hz => ?_⟩
        have s4 : Same H3 (upd H3 z (.lst [])) := Same.upd hz
        refine ne_nil (f := fun _ : Rw => V.int 1) (g := fun _ => .int 1) (s4 _ _ e3) upd_same (fun _ _ => .int 1) (fun _ _ => lay_int 1) ?_
        have := k _ (((s1.trans s2).trans s3).trans s4)
        have e5 : FR.lawLine (rws L) i r = (!((rws (L.take i)).filter fun q => decide (q.b = r.b ∧ q.s = 1)).isEmpty) := by
          rw [any_filter, ← rws_take]
          unfold FR.lawLine
          rw [if_pos hs]
          congr 1
          funext q
          rw [Bool.eq_iff_iff]
          simp
        rw [e5] at this
        exact this
    · have hs : r.s ≠ 1 := fun z => e (by rw [z])
      refine ⟨_, rfl, rfl, _, rfl, iteC (fun e0 => ?_) (fun e0 => ?_)⟩
      · have hs0 : r.s = 0 := V.int.inj e0
        have := k _ s1
        have e2 : FR.lawLine (rws L) i r = false := by
          unfold FR.lawLine
          rw [if_neg hs, if_pos hs0]
        rw [e2] at this
        exact this
      · have hs0 : r.s ≠ 0 := fun z => e0 (by rw [z])
        refine ⟨_, rfl, a, rfl, ⟨_, SqL.of R1.sq⟩, fun D hD => ?_⟩
        refine lc_map L (fun q => if q.2.b = r.b ∧ q.2.s = 1 then some (V.str q.2.a) else none) (walk_map _ (fun q : Addr × Rw => V.ref q.1)) hD (small1830 (by omega)) (fun H2 s2 => SqL.of (s2 _ _ R1.sq)) ?_ ?_
        · rintro j n v H2 H3 Rr N hn s2 ⟨rfl, hx⟩ hR hN
          obtain rfl := map_at hn hx
          have hrow := s2 _ _ (R1.rows n (List.mem_of_getElem? hn))
          refine ⟨rfl, _, rfl, n.1, cells n.2, 1, _, rfl, rfl, SqT.of hrow, rfl, _, rfl, rfl, _, rfl, iteC (fun e => ?_) (fun e => ?_)⟩
          · refine ⟨_, rfl, n.1, cells n.2, 2, _, rfl, rfl, SqT.of hrow, rfl, rfl, _, rfl, iteC (fun e2 => ?_) (fun e2 => ?_)⟩
            · exact ⟨_, rfl, n.1, cells n.2, 0, _, rfl, rfl, SqT.of hrow, rfl, hR _ _ (if_pos ⟨V.str.inj e, V.int.inj e2⟩) (Same.refl _)⟩
            · exact hN _ (if_neg fun z => e2 (by rw [z.2])) (Same.refl _)
          · exact iteF (hN _ (if_neg fun z => e (by rw [z.1])) (Same.refl _))
        · intro H2 s2 e2
          rw [fm_a (fun q => q.b = r.b ∧ q.s = 1), ups_eq] at e2
          refine ⟨_, rfl, D, rfl, ⟨_, SqL.of e2⟩, fun D2 hD2 => ?_⟩
          have hul2 := ups_len (rws L) r.b
          rw [rws_len] at hul2
          refine lc_map (ups (rws L) r.b) (fun n => if FR.has (rws L) r.a n (r.s - 1) = true then some (V.str n) else none) (walk_map _ V.str) hD2 (small1830 (by omega)) (fun H3 s3 => SqL.of (s3 _ _ e2)) ?_ ?_
          · rintro j n v H3 H4 Rr N hn s3 ⟨rfl, hx⟩ hR hN
            obtain rfl := map_at hn hx
            refine ⟨rfl, _, rfl, _, rfl, _, rfl, _, rfl, _, _, rfl, rfl, a, r.a, n, _, L, rfl, (R1.same s2).same s3, fun H5 s5 => ⟨_, rfl, ?_⟩⟩
            cases hb : FR.has (rws L) r.a n (r.s - 1) with
            | true => exact iteT ⟨_, rfl, hR _ _ (if_pos hb) s5⟩
            | false => exact iteF (hN _ (if_neg (by rw [hb]; simp)) s5)
          · intro H3 s3 e3
            rw [filterMap_ite] at e3
            refine ⟨(by show 0 ≤ sizeLine; decide), fun z hz => ?_⟩
            have s4 : Same H3 (upd H3 z (.lst [])) := Same.upd hz
            have hnm : ∀ n ∈ (ups (rws L) r.b).filter (fun n => decide (FR.has (rws L) r.a n (r.s - 1) = true)), PyData.strOk n = true := fun n hn => by
              obtain ⟨r', hr', e', _⟩ := FR.mem_ups.mp (List.mem_filter.mp hn).1
              exact e' ▸ name_str (R.nm r' hr')
            refine eq_nil (f := V.str) (g := fun z => .str z) (s4 _ _ e3) upd_same (fun x _ => .str x) (fun n hn => lay_str (hnm n hn)) ?_
            have := k _ (((s1.trans s2).trans s3).trans s4)
            have e5 : FR.lawLine (rws L) i r = ((ups (rws L) r.b).filter fun n => decide (FR.has (rws L) r.a n (r.s - 1) = true)).isEmpty := by
              unfold FR.lawLine
              rw [if_neg hs, if_neg hs0, ← any_filter, Bool.not_not]
              congr 1
              apply List.filter_congr
              intro n _
              simp
            rw [e5] at this
            exact this
end
end KW
end

section
set_option Elab.async false
set_option linter.all false
set_option maxRecDepth 100000
set_option maxHeartbeats 4000000
/-! The law: the order. -/
namespace KW
open PySem PySem.Spec PyProof.Rows L2 KR
open FR (Ok Rows ups)
theorem zip_at {L : RL} {j : Nat} {n : Rw × Nat} (h : ((rws L).zipIdx)[j]? = some n) : (rws L)[j]? = some n.1 ∧ n.2 = j := by
  rw [List.getElem?_zipIdx] at h
  cases e : (rws L)[j]? with
  | none => rw [e] at h; cases h
  | some r =>
    rw [e] at h
    have := Option.some.inj h
    rw [← this]
    exact ⟨rfl, by simp⟩
theorem zip_mem {L : RL} {n : Rw × Nat} (h : n ∈ (rws L).zipIdx) : (rws L)[n.2]? = some n.1 := by
  obtain ⟨j, hj⟩ := List.mem_iff_getElem?.mp h
  obtain ⟨h1, h2⟩ := zip_at hj
  rw [h2]
  exact h1
section
variable {P : Program} {w : World} {K : PySem.W.Frag} {mg : Str → Option Value} {base : Heap}
abbrev NR : List Str := ["_law_rows_here", "_law_place", "_law_row", "_law_parent_here", "_law_selves", "_law_some", "_law_at", "_law_one_here"]
theorem ndR : NR.Nodup := by decide +kernel
theorem ok_orderw (T : TX K mg) : DfX P w K mg base 2 dOrderW ["_law_rows_here", "_law_place"] (spLp fun rs i r => FR.lawOrder rs i r) := by
  obtain ⟨fdP, GP⟩ := ok_parent (P := P) (w := w) (base := base) T
  refine df_mk T 19 rfl (N := NR) ⟨rfl, rfl, rfl, by decide +kernel, rfl, by decide +kernel, by decide +kernel⟩ (fun _ _ _ _ _ _ us hl => match us, hl with | [_, _], _ => rfl) (fun vs H Q E h => ?_) (fun cdv A outer s H vs Q E hr h => ?_)
  · obtain ⟨a, i, L, r, rfl, _⟩ := h
    rfl
  · obtain ⟨a, i, L, r, rfl, R, hi, k⟩ := h
    have k : ∀ H', Same H H' → Q (.bl (FR.lawOrder (rws L) i r)) H' := k
    obtain ⟨q, hq, eq⟩ := row_at R.rows hi
    have hlen := R.len
    refine ⟨_, pss_cons (ps_set (i := 2) ndR rfl (Or.inr rfl) (pe_ix ix_list (pv 0) (pv 1) (fun _ _ => rfl)))
      (pss_cons (ps_if (pt_cmpR op_ne (pe_ix ix_tup (pv 2) pe_int (fun _ _ => rfl)) pe_int (nomark _)) (pss_one (ps_ret pe_bl)) pss_nil)
      (pss_cons (ps_set (i := 3) ndR rfl (Or.inr rfl) (pe_call GP.ok hr rfl (T.gl 23 _ rfl) GP.kp GP.b .nil pass0 (pa_cons (pv 0) (pa_cons (pe_ix ix_tup (pv 2) pe_int (fun _ _ => rfl)) pa_nil))))
      (pss_cons (ps_setLc (i := 4) (own := [("_law_at", 6), ("_law_one_here", 7)]) (g := gTup K 2 (gCons (gName 6) (gCons (gName 7) gNil))) rfl ndR rfl rfl (sw_true rfl rfl rfl (by decide +kernel)) (pi_enum (by rfl) T.enum (pa_cons (pv 0) pa_nil)) (blkOk_by (N := NR) (sc := dOrderW.scope) (by decide +kernel))
          (fun _ _ _ _ _ => pg_tup rfl (pgs_cons (pg_name (i := 6) ndR rfl (Or.inl rfl)) (pgs_cons (pg_name (i := 7) ndR rfl (Or.inl rfl)) pgs_nil)))
          (fun _ _ _ _ _ => pts_one (pt_cmpR op_eq (pe_ix (ix_tupK K rfl) (pv 7) pe_int (fun _ _ => rfl)) pe_int (nomark _)))
          (fun _ _ _ _ _ => pv 6))
      (pss_cons (ps_setLc (i := 5) (own := [("_law_at", 6)]) (g := gName 6) rfl ndR rfl rfl (sw_true rfl rfl rfl (by decide +kernel)) (pi_list (pv 4)) (blkOk_by (N := NR) (sc := dOrderW.scope) (by decide +kernel))
          (fun _ _ _ _ _ => pg_name (i := 6) ndR rfl (Or.inl rfl))
          (fun _ _ _ _ _ => pts_one (pt_cmpR op_eq (pe_call GP.ok hr rfl (T.gl 23 _ rfl) GP.kp GP.b .nil pass0 (pa_cons (pv 0) (pa_cons (pe_ix (ix_tupK K rfl) (pe_ix (ix_listK K rfl) (pv 0) (pv 6) (fun _ _ => rfl)) pe_int (fun _ _ => rfl)) pa_nil))) (pv 3) (nomark _)))
          (fun _ _ _ _ _ => pv 6))
      (pss_one (ps_ret (pe_or (pe_cmpR op_ge (pe_ix ix_tup (pv 2) pe_int (fun _ _ => rfl)) (pe_callB call_len_seq (by rfl) T.len PySem.boot_len (pa_cons (pv 5) pa_nil)) (nomark _))
        (pe_one (pe_cmpR (op_neD hr.units) (pe_lc (own := [("_law_at", 6)]) (g := gName 6) rfl ndR (pi_list (pv 5)) (blkOk_by (N := NR) (sc := dOrderW.scope) (by decide +kernel))
          (fun _ _ _ _ _ => pg_name (i := 6) ndR rfl (Or.inl rfl))
          (fun _ _ _ _ _ => pts_one (PW.pt (pw_and (pt_cmpR op_lt (pv 6) (pv 1) (nomark _)) (pw_and1 (pt_cmpR op_eq (pe_ix (ix_tupK K rfl) (pe_ix (ix_listK K rfl) (pv 0) (pv 6) (fun _ _ => rfl)) pe_int (fun _ _ => rfl)) (pe_ix (ix_tupK K rfl) (pv 2) pe_int (fun _ _ => rfl)) (nomark _))))))
          (fun _ _ _ _ _ => pe_int)) (pe_lst pa_nil) (nomark _)))))))))), ?_⟩
    refine ⟨_, rfl, _, rfl, a, _, _, _, rfl, rfl, SqL.of R.sq, atI_nat hq, ?_⟩
    refine ⟨_, rfl, q, cells r, 2, _, rfl, rfl, SqT.of eq, rfl, rfl, _, rfl, iteNC (fun e0 => ?_) (fun e0 => ?_)⟩
    · have hs0 : r.s ≠ 0 := fun z => e0 (by rw [z])
      have := k _ (Same.refl H)
      have e2 : FR.lawOrder (rws L) i r = false := by
        unfold FR.lawOrder
        rw [if_neg hs0]
      rw [e2] at this
      exact this
    have hs0 : r.s = 0 := V.int.inj e0
    refine ⟨_, rfl, _, rfl, q, cells r, 0, _, rfl, rfl, SqT.of eq, rfl, a, r.a, L, rfl, R, fun H1 s1 => ?_⟩
    have R1 := R.same s1
    have eq1 := s1 _ _ eq
    have hzl : ((rws L).zipIdx).length = L.length := by rw [List.length_zipIdx, rws_len]
    -- selves
    refine ⟨_, rfl, a, _, rfl, SqL.of R1.sq, fun D hD => ?_⟩
    have wz : Walk (Ite K a) ((rws L).zipIdx).length (fun H => SqL K H a (refs L)) (YPair (fun i => some (.int (i : Nat))) (fun i => (refs L)[i]?)) := by
      have := walk_enum (K := K) (a := a) (xs := refs L)
      rw [refs_len, ← hzl] at this
      exact this
    refine lc_map ((rws L).zipIdx) (fun n => if n.1.s = 0 then some (V.int (n.2 : Nat)) else none) wz hD (by rw [hzl]; exact small1830 (by omega)) (fun H2 s2 => SqL.of (s2 _ _ R1.sq)) ?_ ?_
    · rintro j n v H2 H3 Rr N hn s2 ⟨t, _, _, rfl, ht, rfl, hc, hx⟩ hR hN
      cases hc
      have hx : (refs L)[j]? = some _ := hx
      obtain ⟨p, hp, rfl, hpL, hpr⟩ := refs_at hx
      obtain ⟨hn1, hn2⟩ := zip_at hn
      rw [hpr] at hn1
      have e1 : p.2 = n.1 := Option.some.inj hn1
      have st : Same H2 (upd H2 t (.tup [.int (j : Nat), .ref p.1])) := Same.upd ht
      have hrow := st _ _ (s2 _ _ (R1.rows p hpL))
      refine ⟨t, _, rfl, SqT.of upd_same, rfl, _, _, rfl, _, _, rfl, rfl, rfl, ?_⟩
      refine ⟨_, rfl, p.1, cells p.2, 2, _, rfl, rfl, SqT.of hrow, rfl, rfl, _, rfl, iteC (fun e => ?_) (fun e => ?_)⟩
      · refine ⟨_, rfl, hR _ _ ?_ st⟩
        rw [if_pos (by rw [← e1]; exact V.int.inj e), hn2]
      · exact hN _ (if_neg fun z => e (by rw [e1, z])) st
    intro H2 s2 e2
    rw [filterMap_ite (fun n : Rw × Nat => n.1.s = 0) (fun n => V.int (n.2 : Nat))] at e2
    -- some
    refine ⟨_, rfl, D, rfl, ⟨_, SqL.of e2⟩, fun D2 hD2 => ?_⟩
    have hs2l : (((rws L).zipIdx).filter fun n => decide (n.1.s = 0)).length ≤ L.length := by rw [← hzl]; exact List.length_filter_le _ _
    have R2 := R1.same s2
    refine lc_map (((rws L).zipIdx).filter fun n => decide (n.1.s = 0)) (fun n => if FR.parent (rws L) n.1.a = FR.parent (rws L) r.a then some (V.int (n.2 : Nat)) else none) (walk_map _ (fun n : Rw × Nat => V.int (n.2 : Nat))) hD2 (small1830 (by omega)) (fun H3 s3 => SqL.of (s3 _ _ e2)) ?_ ?_
    · rintro j n v H4 H3 Rr N hn s3 ⟨rfl, hx⟩ hR hN
      obtain rfl := map_at hn hx
      have hnm := (List.mem_filter.mp (List.mem_of_getElem? hn)).1
      have hat := zip_mem hnm
      obtain ⟨p, hp, ep⟩ := row_at R2.rows hat
      have R3 := R2.same s3
      refine ⟨rfl, _, rfl, _, rfl, _, rfl, a, _, _, _, rfl, rfl, SqL.of R3.sq, atI_nat hp, p, cells n.1, 0, _, rfl, rfl, SqT.of (s3 _ _ ep), rfl, a, n.1.a, L, rfl, R3, fun H5 s5 => ?_⟩
      refine ⟨_, rfl, scal_uV _ _, _, rfl, ?_⟩
      rw [dUV]
      refine iteC (fun e => ?_) (fun e => ?_)
      · exact ⟨_, rfl, hR _ _ (if_pos e) s5⟩
      · exact hN _ (if_neg e) s5
    intro H3 s3 e3
    rw [filterMap_ite (fun n : Rw × Nat => FR.parent (rws L) n.1.a = FR.parent (rws L) r.a) (fun n => V.int (n.2 : Nat)), List.filter_filter] at e3
    have esib : (((rws L).zipIdx).filter fun n => decide (FR.parent (rws L) n.1.a = FR.parent (rws L) r.a) && decide (n.1.s = 0)) = FR.sibs (rws L) (FR.parent (rws L) r.a) := by
      unfold FR.sibs
      apply List.filter_congr
      intro n _
      exact Bool.and_comm _ _
    rw [esib] at e3
    have hsl : (FR.sibs (rws L) (FR.parent (rws L) r.a)).length ≤ L.length := by rw [← hzl]; exact List.length_filter_le _ _
    have hsm : ∀ n ∈ FR.sibs (rws L) (FR.parent (rws L) r.a), (rws L)[n.2]? = some n.1 := fun n hn => zip_mem (List.mem_filter.mp hn).1
    generalize hM : FR.sibs (rws L) (FR.parent (rws L) r.a) = M at e3 hsl hsm
    have R3 := R2.same s3
    have ejo : FR.lawOrder (rws L) i r = (decide ((M.length : Int) ≤ r.k) || M.any fun q => decide (q.2 < i) && decide (q.1.k = r.k)) := by
      unfold FR.lawOrder
      rw [if_pos hs0, hM]
    rw [ejo] at k
    have eq3 := s3 _ _ (s2 _ _ eq1)
    refine ⟨_, rfl, q, cells r, 3, _, rfl, rfl, SqT.of eq3, rfl, _, rfl, D2, _, rfl, .inl (SqL.of e3), _, _, rfl, rfl, _, rfl, ?_⟩
    rw [List.length_map]
    refine iteC (fun e => ?_) (fun e => ?_)
    · rw [decide_eq_true e] at k
      have := k _ ((s1.trans s2).trans s3)
      exact this
    · rw [decide_eq_false e, Bool.false_or] at k
      refine ⟨_, rfl, D2, rfl, ⟨_, SqL.of e3⟩, fun D3 hD3 => ?_⟩
      refine lc_map M (fun n => if n.2 < i ∧ n.1.k = r.k then some (V.int 1) else none) (walk_map _ (fun n : Rw × Nat => V.int (n.2 : Nat))) hD3 (small1830 (by omega)) (fun H4 s4 => SqL.of (s4 _ _ e3)) ?_ ?_
      · rintro j n v H5 H4 Rr N hn s4 ⟨rfl, hx⟩ hR hN
        obtain rfl := map_at hn hx
        have hat := hsm n (List.mem_of_getElem? hn)
        obtain ⟨p, hp, ep⟩ := row_at R3.rows hat
        refine ⟨rfl, _, rfl, _, rfl, _, _, rfl, rfl, _, rfl, iteC (fun e1 => ?_) (fun e1 => ?_)⟩
        · have e1 : n.2 < i := by omega
          refine ⟨_, rfl, _, rfl, a, _, _, _, rfl, rfl, SqL.of (s4 _ _ R3.sq), atI_nat hp, p, cells n.1, 3, _, rfl, rfl, SqT.of (s4 _ _ ep), rfl, _, rfl, q, cells r, 3, _, rfl, rfl, SqT.of (s4 _ _ eq3), rfl, rfl, _, rfl, iteC (fun e2 => ?_) (fun e2 => ?_)⟩
          · exact hR _ _ (if_pos ⟨e1, V.int.inj e2⟩) (Same.refl _)
          · exact hN _ (if_neg fun z => e2 (by rw [z.2])) (Same.refl _)
        · have e1 : ¬ n.2 < i := by omega
          exact iteF (hN _ (if_neg fun z => e1 z.1) (Same.refl _))
      · intro H4 s4 e4
        rw [filterMap_ite (fun n : Rw × Nat => n.2 < i ∧ n.1.k = r.k) (fun _ => V.int 1)] at e4
        refine ⟨(by show 0 ≤ sizeLine; decide), fun z hz => ?_⟩
        have s5 : Same H4 (upd H4 z (.lst [])) := Same.upd hz
        refine ne_nil (f := fun _ : Rw × Nat => V.int 1) (g := fun _ => .int 1) (s5 _ _ e4) upd_same (fun _ _ => .int 1) (fun _ _ => lay_int 1) ?_
        have := k _ ((((s1.trans s2).trans s3).trans s4).trans s5)
        rw [any_filter]
        have e6 : (M.any fun q => decide (q.2 < i) && decide (q.1.k = r.k)) = M.any fun n => decide (n.2 < i ∧ n.1.k = r.k) := by
          congr 1
          funext n
          rw [Bool.eq_iff_iff]
          simp
        rw [← e6]
        exact this
end
end KW
end

section
set_option Elab.async false
set_option linter.all false
set_option maxRecDepth 100000
set_option maxHeartbeats 4000000
/-! The law: whether a word applies; the first fault. -/
namespace KW
open PySem PySem.Spec PyProof.Rows L2 KR
open FR (Ok Rows ups)
section
variable {P : Program} {w : World} {K : PySem.W.Frag} {mg : Str → Option Value} {base : Heap}
def spWrong : Sp := fun vs H Q _ => ∃ (a : Addr) (i wd : Nat) (L : RL) (r : Rw), vs = [.ref a, .int (i : Nat), .str (wordOf wd)] ∧ wd < 6 ∧ LR H a L ∧ (rws L)[i]? = some r ∧ ∀ H', Same H H' → Q (.bl (FR.lawWrong wd (rws L) i r)) H'
abbrev NG : List Str := ["_law_rows_here", "_law_place", "_law_word", "_law_above", "_law_below", "_law_steps", "_law_rank", "_law_value_here", "_law_some", "_law_row", "_law_name"]
theorem ndG : NG.Nodup := by decide +kernel
theorem wordOf_ne0 : ∀ v : Nat, v < 6 → ∀ w : Nat, w < 6 → v ≠ w → wordOf v ≠ wordOf w := by decide +kernel
theorem wordOf_ne (v w : Nat) (hv : v < 6) (hw : w < 6) (h : v ≠ w) : wordOf v ≠ wordOf w := wordOf_ne0 v hv w hw h
theorem word_if {A B : Prop} {v u : Nat} (hv : v < 6) (hu : u < 6) (h1 : v = u → A) (h2 : v ≠ u → B) : if decide (V.str (wordOf v) = V.str (wordOf u)) = true then A else B := by
  by_cases h : v = u
  · exact iteP (by rw [h]) (h1 h)
  · exact iteN (fun z => wordOf_ne v u hv hu h (V.str.inj z)) (h2 h)
theorem ok_wrong (T : TX K mg) : DfX P w K mg base 3 dWrong ["_law_rows_here", "_law_place", "_law_word"] spWrong := by
  obtain ⟨fdH, GH⟩ := ok_has (P := P) (w := w) (base := base) T
  obtain ⟨fdL, GL⟩ := ok_linew (P := P) (w := w) (base := base) T
  obtain ⟨fdO, GO⟩ := ok_orderw (P := P) (w := w) (base := base) T
  refine df_mk T 20 rfl (N := NG) ⟨rfl, rfl, rfl, by decide +kernel, rfl, by decide +kernel, by decide +kernel⟩ (fun _ _ _ _ _ _ us hl => match us, hl with | [_, _, _], _ => rfl) (fun vs H Q E h => ?_) (fun cdv A outer s H vs Q E hr h => ?_)
  · obtain ⟨a, i, wd, L, r, rfl, _⟩ := h
    rfl
  · obtain ⟨a, i, wd, L, r, rfl, hwd, R, hi, k⟩ := h
    obtain ⟨q, hq, eq⟩ := row_at R.rows hi
    have hlen := R.len
    have hr1 := hr.mono (j := 1) (by decide)
    refine ⟨_, pss_cons (ps_asg (pe_ix ix_list (pv 0) (pv 1) (fun _ _ => rfl)) (pg_tup rfl (pgs_cons (pg_name (i := 3) ndG rfl (Or.inr rfl)) (pgs_cons (pg_name (i := 4) ndG rfl (Or.inr rfl)) (pgs_cons (pg_name (i := 5) ndG rfl (Or.inr rfl)) (pgs_cons (pg_name (i := 6) ndG rfl (Or.inr rfl)) (pgs_cons (pg_name (i := 7) ndG rfl (Or.inr rfl)) pgs_nil)))))))
      (pss_cons (ps_if (pt_cmpR op_eq (pv 2) pe_str (nomark _)) (pss_one (ps_ret (pe_or (pe_not (pe_call GH.ok hr1 rfl (T.gl 22 _ rfl) GH.kp GH.b .nil pass0 (pa_cons (pv 0) (pa_cons (pv 3) (pa_cons (pv 3) (pa_cons pe_int pa_nil))))))
          (pe_one (pe_not (pe_call GH.ok hr1 rfl (T.gl 22 _ rfl) GH.kp GH.b .nil pass0 (pa_cons (pv 0) (pa_cons (pv 4) (pa_cons (pv 4) (pa_cons pe_int pa_nil)))))))))) pss_nil)
      (pss_cons (ps_if (pt_cmpR op_eq (pv 2) pe_str (nomark _)) (pss_one (ps_ret (pe_call GL.ok hr rfl (T.gl 24 _ rfl) GL.kp GL.b .nil pass0 (pa_cons (pv 0) (pa_cons (pv 1) pa_nil))))) pss_nil)
      (pss_cons (ps_if (pt_cmpR op_eq (pv 2) pe_str (nomark _))
        (pss_cons (ps_setLc (i := 8) (own := [("_law_row", 9)]) (g := gName 9) rfl ndG rfl rfl (sw_true rfl rfl rfl (by decide +kernel)) (pi_list (pv 0)) (blkOk_by (N := NG) (sc := dWrong.scope) (by decide +kernel))
          (fun _ _ _ _ _ => pg_name (i := 9) ndG rfl (Or.inl rfl))
          (fun _ _ _ _ _ => pts_one (PW.pt (pw_and (pt_cmpR op_eq (pe_ix (ix_tupK K rfl) (pv 9) pe_int (fun _ _ => rfl)) (pv 3) (nomark _)) (pw_and1 (pt_cmpR op_eq (pe_ix (ix_tupK K rfl) (pv 9) pe_int (fun _ _ => rfl)) pe_int (nomark _))))))
          (fun _ _ _ _ _ => pe_ix (ix_tupK K rfl) (pv 9) pe_int (fun _ _ => rfl)))
        (pss_one (ps_ret (pe_cmpR (op_neD hr.units) (pe_lc (own := [("_law_name", 10)]) (g := gName 10) rfl ndG (pi_list (pv 8)) (blkOk_by (N := NG) (sc := dWrong.scope) (by decide +kernel))
          (fun _ _ _ _ _ => pg_name (i := 10) ndG rfl (Or.inl rfl))
          (fun _ _ _ _ _ => pts_one (pt_not (pt_val (pe_call GH.ok hr1 rfl (T.gl 22 _ rfl) GH.kp GH.b .nil pass0 (pa_cons (pv 0) (pa_cons (pv 10) (pa_cons (pv 4) (pa_cons (pe_op op_add (pv 5) pe_int) pa_nil))))))))
          (fun _ _ _ _ _ => pv 10)) (pe_lst pa_nil) (nomark _))))) pss_nil)
      (pss_cons (ps_if (pt_cmpR op_eq (pv 2) pe_str (nomark _)) (pss_one (ps_ret (pe_cmpR (op_neD hr.units) (pe_lc (own := [("_law_row", 9)]) (g := gName 9) rfl ndG (pi_list (pe_slice sl_list (pv 0) po_none (po_some (pv 1)))) (blkOk_by (N := NG) (sc := dWrong.scope) (by decide +kernel))
          (fun _ _ _ _ _ => pg_name (i := 9) ndG rfl (Or.inl rfl))
          (fun _ _ _ _ _ => pts_one (PW.pt (pw_and (pt_cmpR op_eq (pe_ix (ix_tupK K rfl) (pv 9) pe_int (fun _ _ => rfl)) (pv 3) (nomark _)) (pw_and1 (pt_cmpR op_ne (pe_ix (ix_tupK K rfl) (pv 9) pe_int (fun _ _ => rfl)) (pv 6) (nomark _))))))
          (fun _ _ _ _ _ => pe_int)) (pe_lst pa_nil) (nomark _)))) pss_nil)
      (pss_cons (ps_if (pt_cmpR op_eq (pv 2) pe_str (nomark _)) (pss_one (ps_ret (pe_cmpR (op_neD hr.units) (pe_lc (own := [("_law_row", 9)]) (g := gName 9) rfl ndG (pi_list (pe_slice sl_list (pv 0) po_none (po_some (pv 1)))) (blkOk_by (N := NG) (sc := dWrong.scope) (by decide +kernel))
          (fun _ _ _ _ _ => pg_name (i := 9) ndG rfl (Or.inl rfl))
          (fun _ _ _ _ _ => pts_one (PW.pt (pw_and (pt_cmpR op_eq (pe_ix (ix_tupK K rfl) (pv 9) pe_int (fun _ _ => rfl)) (pv 4) (nomark _)) (pw_and1 (pt_cmpR op_ne (pe_ix (ix_tupK K rfl) (pv 9) pe_int (fun _ _ => rfl)) (pv 7) (nomark _))))))
          (fun _ _ _ _ _ => pe_int)) (pe_lst pa_nil) (nomark _)))) pss_nil)
      (pss_one (ps_ret (pe_call GO.ok hr rfl (T.gl 25 _ rfl) GO.kp GO.b .nil pass0 (pa_cons (pv 0) (pa_cons (pv 1) pa_nil)))))))))), ?_⟩
    refine ⟨_, rfl, _, rfl, a, _, _, _, rfl, rfl, SqL.of R.sq, atI_nat hq, ?_⟩
    refine ⟨q, cells r, rfl, SqT.of eq, rfl, _, _, rfl, _, _, rfl, _, _, rfl, _, _, rfl, _, _, rfl, rfl, ?_⟩
    -- self
    refine ⟨_, rfl, rfl, _, rfl, word_if (u := 0) hwd (by decide) (fun e => ?_) (fun e0 => ?_)⟩
    · subst e
      refine ⟨_, rfl, _, rfl, _, rfl, a, r.a, r.a, 0, L, rfl, R, fun H1 s1 => ⟨_, rfl, _, rfl, ?_⟩⟩
      have k : ∀ H', Same H H' → Q (.bl (!FR.has (rws L) r.a r.a 0 || !FR.has (rws L) r.b r.b 0)) H' := k
      cases hb : FR.has (rws L) r.a r.a 0 with
      | true =>
        rw [hb] at k
        refine iteF ⟨_, rfl, _, rfl, _, rfl, a, r.b, r.b, 0, L, rfl, R.same s1, fun H2 s2 => ⟨_, rfl, ?_⟩⟩
        exact k _ (s1.trans s2)
      | false =>
        rw [hb] at k
        exact iteT (k _ s1)
    -- line
    refine ⟨_, rfl, rfl, _, rfl, word_if (u := 1) hwd (by decide) (fun e => ?_) (fun e1 => ?_)⟩
    · subst e
      exact ⟨_, rfl, _, rfl, a, i, L, r, rfl, R, hi, k⟩
    -- gap
    refine ⟨_, rfl, rfl, _, rfl, word_if (u := 2) hwd (by decide) (fun e => ?_) (fun e2 => ?_)⟩
    · subst e
      have k : ∀ H', Same H H' → Q (.bl (FR.lawGap (rws L) r)) H' := k
      refine ⟨_, rfl, a, rfl, ⟨_, SqL.of R.sq⟩, fun D hD => ?_⟩
      refine lc_map L (fun q => if q.2.b = r.a ∧ q.2.s = 1 then some (V.str q.2.a) else none) (walk_map _ (fun q : Addr × Rw => V.ref q.1)) hD (small1830 (by omega)) (fun H2 s2 => SqL.of (s2 _ _ R.sq)) ?_ ?_
      · rintro j n v H2 H3 Rr N hn s2 ⟨rfl, hx⟩ hR hN
        obtain rfl := map_at hn hx
        have hrow := s2 _ _ (R.rows n (List.mem_of_getElem? hn))
        refine ⟨rfl, _, rfl, n.1, cells n.2, 1, _, rfl, rfl, SqT.of hrow, rfl, _, rfl, rfl, _, rfl, iteC (fun e => ?_) (fun e => ?_)⟩
        · refine ⟨_, rfl, n.1, cells n.2, 2, _, rfl, rfl, SqT.of hrow, rfl, rfl, _, rfl, iteC (fun e2 => ?_) (fun e2 => ?_)⟩
          · exact ⟨_, rfl, n.1, cells n.2, 0, _, rfl, rfl, SqT.of hrow, rfl, hR _ _ (if_pos ⟨V.str.inj e, V.int.inj e2⟩) (Same.refl _)⟩
          · exact hN _ (if_neg fun z => e2 (by rw [z.2])) (Same.refl _)
        · exact iteF (hN _ (if_neg fun z => e (by rw [z.1])) (Same.refl _))
      · intro H2 s2 e2
        rw [fm_a (fun q => q.b = r.a ∧ q.s = 1), ups_eq] at e2
        refine ⟨_, rfl, D, rfl, ⟨_, SqL.of e2⟩, fun D2 hD2 => ?_⟩
        have hul2 := ups_len (rws L) r.a
        rw [rws_len] at hul2
        refine lc_map (ups (rws L) r.a) (fun n => if FR.has (rws L) n r.b (r.s + 1) = false then some (V.str n) else none) (walk_map _ V.str) hD2 (small1830 (by omega)) (fun H3 s3 => SqL.of (s3 _ _ e2)) ?_ ?_
        · rintro j n v H3 H4 Rr N hn s3 ⟨rfl, hx⟩ hR hN
          obtain rfl := map_at hn hx
          refine ⟨rfl, _, rfl, _, rfl, _, rfl, _, rfl, _, _, rfl, rfl, a, n, r.b, _, L, rfl, (R.same s2).same s3, fun H5 s5 => ⟨_, rfl, ?_⟩⟩
          cases hb : FR.has (rws L) n r.b (r.s + 1) with
          | true => exact iteF (hN _ (if_neg (by rw [hb]; simp)) s5)
          | false => exact iteT ⟨_, rfl, hR _ _ (if_pos hb) s5⟩
        · intro H3 s3 e3
          rw [filterMap_ite] at e3
          refine ⟨(by show 0 ≤ sizeLine; decide), fun z hz => ?_⟩
          have s4 : Same H3 (upd H3 z (.lst [])) := Same.upd hz
          have hnm : ∀ n ∈ (ups (rws L) r.a).filter (fun n => decide (FR.has (rws L) n r.b (r.s + 1) = false)), PyData.strOk n = true := fun n hn => by
            obtain ⟨r', hr', e', _⟩ := FR.mem_ups.mp (List.mem_filter.mp hn).1
            exact e' ▸ name_str (R.nm r' hr')
          refine ne_nil (f := V.str) (g := fun z => .str z) (s4 _ _ e3) upd_same (fun x _ => .str x) (fun n hn => lay_str (hnm n hn)) ?_
          have := k _ ((s2.trans s3).trans s4)
          have e5 : FR.lawGap (rws L) r = (!((ups (rws L) r.a).filter fun n => decide (FR.has (rws L) n r.b (r.s + 1) = false)).isEmpty) := by
            rw [any_filter]
            unfold FR.lawGap
            congr 1
            funext n
            cases FR.has (rws L) n r.b (r.s + 1) <;> rfl
          rw [e5] at this
          exact this
    -- ranks
    have hcut : ∀ {H1 : Hp} {p : Addr}, (upd H1 p (.lst (cutV (refs L) none (some (i : Int))))) p = some (.lst (refs (L.take i))) := by
      intro H1 p
      rw [upd_same, cutV_pre (by rw [refs_len]; have := (List.getElem?_eq_some_iff.mp hi).1; rw [rws_len] at this; omega), refs_take]
    refine ⟨_, rfl, rfl, _, rfl, word_if (u := 3) hwd (by decide) (fun e => ?_) (fun e3 => ?_)⟩
    · subst e
      have k : ∀ H', Same H H' → Q (.bl (FR.lawRanks (rws L) i r)) H' := k
      refine ⟨_, rfl, _, rfl, _, rfl, a, _, rfl, SqL.of R.sq, fun p hp => ?_⟩
      have s2 : Same H (upd H p (.lst (cutV (refs L) none (some (i : Int))))) := Same.upd hp
      have ep : (upd H p (.lst (cutV (refs L) none (some (i : Int))))) p = some (.lst (refs (L.take i))) := hcut
      generalize upd H p (.lst (cutV (refs L) none (some (i : Int)))) = H2 at s2 ep ⊢
      refine ⟨p, rfl, ⟨_, SqL.of ep⟩, fun D hD => ?_⟩
      refine lc_map (L.take i) (fun q => if q.2.a = r.a ∧ q.2.k ≠ r.k then some (V.int 1) else none) (walk_map _ (fun q : Addr × Rw => V.ref q.1)) hD (by rw [List.length_take]; exact small1830 (by omega)) (fun H3 s3 => SqL.of (s3 _ _ ep)) ?_ ?_
      · rintro j n v H4 H3 Rr N hn s3 ⟨rfl, hx⟩ hR hN
        obtain rfl := map_at hn hx
        have hrow := s3 _ _ (s2 _ _ (R.rows n (List.mem_of_mem_take (List.mem_of_getElem? hn))))
        refine ⟨rfl, _, rfl, n.1, cells n.2, 0, _, rfl, rfl, SqT.of hrow, rfl, _, rfl, rfl, _, rfl, iteC (fun e => ?_) (fun e => ?_)⟩
        · refine ⟨_, rfl, n.1, cells n.2, 3, _, rfl, rfl, SqT.of hrow, rfl, _, rfl, rfl, _, rfl, iteNC (fun e2 => ?_) (fun e2 => ?_)⟩
          · exact hR _ _ (if_pos ⟨V.str.inj e, fun z => e2 (by rw [z])⟩) (Same.refl _)
          · exact hN _ (if_neg fun z => z.2 (V.int.inj e2)) (Same.refl _)
        · exact iteF (hN _ (if_neg fun z => e (by rw [z.1])) (Same.refl _))
      · intro H3 s3 e3
        rw [fm_ones (fun q => q.a = r.a ∧ q.k ≠ r.k)] at e3
        refine ⟨(by show 0 ≤ sizeLine; decide), fun z hz => ?_⟩
        have s4 : Same H3 (upd H3 z (.lst [])) := Same.upd hz
        refine ne_nil (f := fun _ : Rw => V.int 1) (g := fun _ => .int 1) (s4 _ _ e3) upd_same (fun _ _ => .int 1) (fun _ _ => lay_int 1) ?_
        have := k _ ((s2.trans s3).trans s4)
        have e5 : FR.lawRanks (rws L) i r = (!((rws (L.take i)).filter fun q => decide (q.a = r.a ∧ q.k ≠ r.k)).isEmpty) := by
          rw [any_filter, ← rws_take]
          unfold FR.lawRanks
          congr 1
          funext q
          rw [Bool.eq_iff_iff]
          simp
        rw [e5] at this
        exact this
    refine ⟨_, rfl, rfl, _, rfl, word_if (u := 4) hwd (by decide) (fun e => ?_) (fun e4 => ?_)⟩
    · subst e
      have k : ∀ H', Same H H' → Q (.bl (FR.lawValues (rws L) i r)) H' := k
      refine ⟨_, rfl, _, rfl, _, rfl, a, _, rfl, SqL.of R.sq, fun p hp => ?_⟩
      have s2 : Same H (upd H p (.lst (cutV (refs L) none (some (i : Int))))) := Same.upd hp
      have ep : (upd H p (.lst (cutV (refs L) none (some (i : Int))))) p = some (.lst (refs (L.take i))) := hcut
      generalize upd H p (.lst (cutV (refs L) none (some (i : Int)))) = H2 at s2 ep ⊢
      refine ⟨p, rfl, ⟨_, SqL.of ep⟩, fun D hD => ?_⟩
      refine lc_map (L.take i) (fun q => if q.2.b = r.b ∧ q.2.v ≠ r.v then some (V.int 1) else none) (walk_map _ (fun q : Addr × Rw => V.ref q.1)) hD (by rw [List.length_take]; exact small1830 (by omega)) (fun H3 s3 => SqL.of (s3 _ _ ep)) ?_ ?_
      · rintro j n v H4 H3 Rr N hn s3 ⟨rfl, hx⟩ hR hN
        obtain rfl := map_at hn hx
        have hrow := s3 _ _ (s2 _ _ (R.rows n (List.mem_of_mem_take (List.mem_of_getElem? hn))))
        refine ⟨rfl, _, rfl, n.1, cells n.2, 1, _, rfl, rfl, SqT.of hrow, rfl, _, rfl, rfl, _, rfl, iteC (fun e => ?_) (fun e => ?_)⟩
        · refine ⟨_, rfl, n.1, cells n.2, 4, _, rfl, rfl, SqT.of hrow, rfl, _, rfl, rfl, _, rfl, iteNC (fun e2 => ?_) (fun e2 => ?_)⟩
          · exact hR _ _ (if_pos ⟨V.str.inj e, fun z => e2 (by rw [z])⟩) (Same.refl _)
          · exact hN _ (if_neg fun z => z.2 (V.int.inj e2)) (Same.refl _)
        · exact iteF (hN _ (if_neg fun z => e (by rw [z.1])) (Same.refl _))
      · intro H3 s3 e3
        rw [fm_ones (fun q => q.b = r.b ∧ q.v ≠ r.v)] at e3
        refine ⟨(by show 0 ≤ sizeLine; decide), fun z hz => ?_⟩
        have s4 : Same H3 (upd H3 z (.lst [])) := Same.upd hz
        refine ne_nil (f := fun _ : Rw => V.int 1) (g := fun _ => .int 1) (s4 _ _ e3) upd_same (fun _ _ => .int 1) (fun _ _ => lay_int 1) ?_
        have := k _ ((s2.trans s3).trans s4)
        have e5 : FR.lawValues (rws L) i r = (!((rws (L.take i)).filter fun q => decide (q.b = r.b ∧ q.v ≠ r.v)).isEmpty) := by
          rw [any_filter, ← rws_take]
          unfold FR.lawValues
          congr 1
          funext q
          rw [Bool.eq_iff_iff]
          simp
        rw [e5] at this
        exact this
    · have e5 : wd = 5 := by omega
      subst e5
      exact ⟨_, rfl, _, rfl, a, i, L, r, rfl, R, hi, k⟩
def DueAt (H : Hp) (x : V) : Option (Nat × Nat) → Prop
  | none => x = .non
  | some (i, w) => ∃ t : Addr, x = .ref t ∧ H t = some (.tup [.int (i : Nat), .str (wordOf w)])
def spDue : Sp := fun vs H Q _ => ∃ (a : Addr) (L : RL), vs = [.ref a] ∧ LR H a L ∧ ∀ x H', Same H H' → DueAt H' x (FR.due (rws L)) → Q x H'
abbrev NU : List Str := ["_law_rows_here", "_law_word", "_law_place"]
theorem ndU : NU.Nodup := by decide +kernel
theorem ok_due (T : TX K mg) : DfX P w K mg base 4 dDue ["_law_rows_here"] spDue := by
  obtain ⟨fdW, GW⟩ := ok_wrong (P := P) (w := w) (base := base) T
  refine df_mk T 21 rfl (N := NU) ⟨rfl, rfl, rfl, by decide +kernel, rfl, by decide +kernel, by decide +kernel⟩ (fun _ _ _ _ _ _ us hl => match us, hl with | [_], _ => rfl) (fun vs H Q E h => ?_) (fun cdv A outer s H vs Q E hr h => ?_)
  · obtain ⟨a, L, rfl, _⟩ := h
    rfl
  · obtain ⟨a, L, rfl, R, k⟩ := h
    have hlen := R.len
    have hrl : (rws L).length = L.length := rws_len L
    refine ⟨_, pss_cons (ps_for PassesOwn.never rfl (pi_list (pe_lst (pa_cons pe_str (pa_cons pe_str (pa_cons pe_str (pa_cons pe_str (pa_cons pe_str (pa_cons pe_str pa_nil)))))))) (pg_name (i := 1) ndU rfl (Or.inl rfl))
        (pss_one (ps_for PassesOwn.never rfl (pi_range1 (by rfl) T.range (pa_cons (pe_callB call_len_seq (by rfl) T.len PySem.boot_len (pa_cons (pv 0) pa_nil)) pa_nil)) (pg_name (i := 2) ndU rfl (Or.inl rfl))
          (pss_one (ps_if (pt_val (pe_call GW.ok hr rfl (T.gl 26 _ rfl) GW.kp GW.b .nil pass0 (pa_cons (pv 0) (pa_cons (pv 2) (pa_cons (pv 1) pa_nil))))) (pss_one (ps_ret (pe_tup (pa_cons (pv 2) (pa_cons (pv 1) pa_nil))))) pss_nil)))))
      (pss_one (ps_ret pe_non)), ?_⟩
    refine ⟨(by show 6 ≤ sizeLine; decide), fun l hl => ?_⟩
    have s1 : Same H (upd H l (.lst [.str "self", .str "line", .str "gap", .str "ranks", .str "values", .str "order"])) := Same.upd hl
    have el : (upd H l (.lst [.str "self", .str "line", .str "gap", .str "ranks", .str "values", .str "order"])) l = some (.lst ((List.range 6).map fun w => V.str (wordOf w))) := upd_same
    generalize upd H l (.lst [.str "self", .str "line", .str "gap", .str "ranks", .str "values", .str "order"]) = H1 at s1 el ⊢
    refine ⟨l, rfl, ⟨_, SqL.of el⟩, for_list (K := K) (a := l) (xs := (List.range 6).map fun w => V.str (wordOf w)) (fun wd σ H' => (∃ v1 v2, σ = [some (.ref a), v1, v2]) ∧ Same H1 H' ∧ ∀ v, v < wd → FR.firstAt (FR.lawWrong v (rws L)) (rws L) = none)
      ⟨⟨_, _, rfl⟩, Same.refl _, fun v hv => absurd hv (Nat.not_lt_zero _)⟩ (fun wd σ H' _ h => SqL.of (h.2.1 _ _ el)) ?_ ?_⟩
    · rintro wd x σ H2 hx ⟨⟨v1, v2, rfl⟩, s2, f2⟩
      have hwd : wd < 6 := by have := (List.getElem?_eq_some_iff.mp hx).1; simpa using this
      have ex : x = V.str (wordOf wd) := by
        rw [List.getElem?_map, List.getElem?_range hwd] at hx
        exact (Option.some.inj hx).symm
      subst ex
      have R2 := (R.same s1).same s2
      refine ⟨_, rfl, a, _, rfl, .inl (SqL.of R2.sq), ((refs L).length : Int), rfl, (by rw [refs_len]; omega), (by rw [refs_len]; omega), ?_⟩
      refine for_range (lo := 0) (n := (refs L).length) (fun i σ H' => (∃ v2, σ = [some (.ref a), some (.str (wordOf wd)), v2]) ∧ Same H1 H' ∧ ∀ j r, j < i → (rws L)[j]? = some r → FR.lawWrong wd (rws L) j r = false) ⟨⟨_, rfl⟩, s2, fun j r h => absurd h (Nat.not_lt_zero _)⟩ ?_ ?_
      · rintro i σ H6 hi ⟨⟨v, rfl⟩, s6, f6⟩
        rw [refs_len] at hi
        have er : (rws L)[i]? = some (rws L)[i] := List.getElem?_eq_getElem (by omega)
        generalize (rws L)[i] = r at er
        refine ⟨_, rfl, _, rfl, _, rfl, a, i, wd, L, r, (by rw [Int.zero_add]; rfl), hwd, (R.same s1).same s6, er, fun H7 s7 => ⟨_, rfl, ?_⟩⟩
        cases e : FR.lawWrong wd (rws L) i r with
        | true =>
          have e2 : FR.due (rws L) = some (i, wd) := FR.firstOf_some hwd f2 (FR.firstAt_some f6 er e)
          rw [e2] at k
          refine iteT ⟨_, rfl, _, rfl, (by show 2 ≤ sizeLine; decide), fun t ht => ?_⟩
          exact k _ _ (((s1.trans s6).trans s7).trans (Same.upd ht)) ⟨t, rfl, by rw [upd_same, Int.zero_add]⟩
        | false =>
          refine iteF ⟨⟨_, rfl⟩, s6.trans s7, fun j q hj hq => ?_⟩
          by_cases z : j = i
          · subst z
            rw [er] at hq
            cases hq
            exact e
          · exact f6 j q (by omega) hq
      · rintro σ H6 ⟨⟨v, rfl⟩, s6, f6⟩
        rw [refs_len] at f6
        refine ⟨⟨_, _, rfl⟩, s6, fun v hv => ?_⟩
        by_cases z : v = wd
        · subst z
          exact FR.firstAt_none fun j r e => f6 j r (by have := (List.getElem?_eq_some_iff.mp e).1; omega) e
        · exact f2 v (by omega)
    · rintro σ H2 ⟨⟨v1, v2, rfl⟩, s2, f2⟩
      have e2 : FR.due (rws L) = none := FR.firstOf_none fun v hv => f2 v (by simpa using hv)
      rw [e2] at k
      exact k _ _ (s1.trans s2) rfl
end
end KW
end

section
set_option Elab.async false
set_option linter.all false
set_option maxRecDepth 100000
set_option maxHeartbeats 4000000
/-! The law: a list of rows spoiled. -/
namespace KW
open PySem PySem.Spec PyProof.Rows L2 KR
open FR (Ok Rows ups)
theorem sl_tupK {X : Cx} (K : PySem.W.Frag) (hK : X.K = K) : SlR X (rSlT K) := hK ▸ sl_tup
def Tups2 (H : Hp) (L : RL) : Prop := ∀ q ∈ L, H q.1 = some (.tup [.str q.2.a, .str q.2.b])
def prD2 (r : Rw) : PyData := .tuple [.str r.a, .str r.b]
theorem prD2_ok {r : Rw} (h1 : PyData.strOk r.a = true) (h2 : PyData.strOk r.b = true) : (prD2 r).canLay0 = true ∧ (prD2 r).depth ≤ 60 := by
  simp [prD2, PyData.canLay0, PyData.canLayAll0, PyData.depth, PyData.depthAll, h1, h2]
theorem prD2_eqv {r q : Rw} (h : PyData.eqv (prD2 r) (prD2 q) = false) : ¬ (q.a = r.a ∧ q.b = r.b) := by
  intro ⟨h1, h2⟩
  simp [prD2, PyData.eqv, PyData.eqvAll, h1, h2] at h
theorem Tups_w {H H' : Hp} {L : RL} {w a : Addr} (h : Tups H L) (hw : ∀ xs, H w ≠ some (.tup xs)) (ha : ∀ xs, H a ≠ some (.tup xs)) (s : ∀ b o, H b = some o → b ≠ w → b ≠ a → H' b = some o) : Tups H' L := fun q hq =>
  s _ _ (h q hq) (fun z => hw _ (by rw [← z]; exact h q hq)) (fun z => ha _ (by rw [← z]; exact h q hq))
theorem refs_set (L : RL) (i : Nat) (q : Addr × Rw) : (refs L).set i (.ref q.1) = refs (L.set i q) := by
  unfold refs
  rw [List.map_set]
theorem rws_set (L : RL) (i : Nat) (q : Addr × Rw) : rws (L.set i q) = (rws L).set i q.2 := by
  unfold rws
  rw [List.map_set]
section
variable {P : Program} {w : World} {K : PySem.W.Frag} {mg : Str → Option Value} {base : Heap}
def spSpoil : Sp := fun vs H Q _ => ∃ (w a : Addr) (n : Nat) (L : RL) (pool : List Str), vs = [.ref w, .ref a] ∧ WellAt H w n ∧ n ≤ 1000000 ∧ a ≠ w ∧ H a = some (.lst (refs L)) ∧ Tups H L ∧ 0 < L.length ∧ L.length ≤ 900 ∧ (∀ x ∈ pool, NameOk x) ∧ FR.Wf pool (rws L) ∧
  ∀ (M : RL) H', H' a = some (.lst (refs M)) → Tups H' M → 0 < M.length → M.length ≤ L.length + 1 → FR.Wf pool (rws M) → WellAt H' w (n + 10) → (∀ b o, H b = some o → b ≠ w → b ≠ a → H' b = some o) → Q .non H'
abbrev NS : List Str := ["_law_well_here", "_law_rows_here", "_law_at", "_law_by", "_law_above", "_law_below", "_law_steps", "_law_rank", "_law_value_here", "_law_pairs_here", "_law_way", "_law_row"]
theorem ndS : NS.Nodup := by decide +kernel
theorem ok_spoil (T : TX K mg) : DfX P w K mg base 4 dSpoil ["_law_well_here", "_law_rows_here"] spSpoil := by
  obtain ⟨fdD, GD⟩ := ok_draw (P := P) (w := w) (base := base) T
  obtain ⟨fdV, GV⟩ := ok_val (P := P) (w := w) (base := base) T
  refine df_mk T 22 rfl (N := NS) ⟨rfl, rfl, rfl, by decide +kernel, rfl, by decide +kernel, by decide +kernel⟩ (fun _ _ _ _ _ _ us hl => match us, hl with | [_, _], _ => rfl) (fun vs H Q E h => ?_) (fun cdv A outer s H vs Q E hr h => ?_)
  · obtain ⟨w, a, n, L, pool, rfl, _⟩ := h
    rfl
  · obtain ⟨w, a, n, L, pool, rfl, W, hn, naw, ha, hT, hl0, hl, hp, wf, k⟩ := h
    have hr1 := hr.mono (j := 1) (by decide)
    have hu65 : (A.deeper (envOfC dSpoil.qual dSpoil.scope s.heap.objs.size (He.fAd K dSpoil.at_) cdv)).units + 65 < cLine := by have := hr.un; omega
    refine ⟨_, pss_cons (ps_par (i := 2) (j := 3) rfl ndS rfl rfl (by decide) rfl rfl
        (pa_cons (pe_call GD.ok hr1 rfl (T.gl 14 _ rfl) GD.kp GD.b .nil pass0 (pa_cons (pv 0) (pa_cons (pe_callB call_len_seq (by rfl) T.len PySem.boot_len (pa_cons (pv 1) pa_nil)) pa_nil)))
        (pa_cons (pe_call GD.ok hr1 rfl (T.gl 14 _ rfl) GD.kp GD.b .nil pass0 (pa_cons (pv 0) (pa_cons (pe_callB call_len_seq (by rfl) T.len PySem.boot_len (pa_cons (pv 1) pa_nil)) pa_nil))) pa_nil)) (by rfl))
      (pss_cons (ps_asg (pe_ix ix_list (pv 1) (pv 2) (fun _ _ => rfl)) (pg_tup rfl (pgs_cons (pg_name (i := 4) ndS rfl (Or.inl rfl)) (pgs_cons (pg_name (i := 5) ndS rfl (Or.inl rfl)) (pgs_cons (pg_name (i := 6) ndS rfl (Or.inl rfl)) (pgs_cons (pg_name (i := 7) ndS rfl (Or.inl rfl)) (pgs_cons (pg_name (i := 8) ndS rfl (Or.inl rfl)) pgs_nil)))))))
      (pss_cons (ps_par (i := 9) (j := 10) rfl ndS rfl rfl (by decide) rfl rfl
        (pa_cons (pe_lc (own := [("_law_row", 11)]) (g := gName 11) (tt := tYes) rfl ndS (pi_list (pv 1)) (blkOk_by (N := NS) (sc := dSpoil.scope) (by decide +kernel))
          (fun _ _ _ _ _ => pg_name (i := 11) ndS rfl (Or.inl rfl)) (fun _ _ _ _ _ => pts_nil) (fun _ _ _ _ _ => pe_slice (sl_tupK K rfl) (pv 11) po_none (po_some pe_int)))
        (pa_cons (pe_call GD.ok hr1 rfl (T.gl 14 _ rfl) GD.kp GD.b .nil pass0 (pa_cons (pv 0) (pa_cons pe_int pa_nil))) pa_nil)) (by rfl))
      (pss_cons (ps_if (PW.pt (pw_and (pt_cmpR op_lt (pv 10) pe_int (nomark _)) (pw_and1 (pt_cmpR op_gt (pe_callB call_len_seq (by rfl) T.len PySem.boot_len (pa_cons (pv 1) pa_nil)) pe_int (nomark _)))))
        (pss_one (ps_expr (pe_bm PySem.F.plainAttrs_list PySem.F.slot_list_pop PySem.F.type_list_pop mt_popAt (pv 1) (pa_cons (pv 2) pa_nil)))) pss_nil)
      (pss_cons (ps_if (PW.pt (pw_and (pt_cmpR op_eq (pv 10) pe_int (nomark _)) (pw_and1 (pt_cmpR op_gt (pv 6) pe_int (nomark _)))))
        (pss_one (ps_asg (pe_tup (pa_cons (pv 4) (pa_cons (pv 5) (pa_cons (pe_op op_add pe_int (pe_call GD.ok hr1 rfl (T.gl 14 _ rfl) GD.kp GD.b .nil pass0 (pa_cons (pv 0) (pa_cons pe_int pa_nil)))) (pa_cons (pv 7) (pa_cons (pv 8) pa_nil)))))) (pg_sub (pv 1) (pv 2) set_list))) pss_nil)
      (pss_cons (ps_if (pt_cmpR op_eq (pv 10) pe_int (nomark _))
        (pss_one (ps_asg (pe_tup (pa_cons (pv 4) (pa_cons (pv 5) (pa_cons (pv 6) (pa_cons (pe_call GD.ok hr1 rfl (T.gl 14 _ rfl) GD.kp GD.b .nil pass0 (pa_cons (pv 0) (pa_cons pe_int pa_nil))) (pa_cons (pv 8) pa_nil)))))) (pg_sub (pv 1) (pv 2) set_list))) pss_nil)
      (pss_cons (ps_if (pt_cmpR op_eq (pv 10) pe_int (nomark _))
        (pss_one (ps_asg (pe_tup (pa_cons (pv 4) (pa_cons (pv 5) (pa_cons (pv 6) (pa_cons (pv 7) (pa_cons (pe_call GV.ok hr rfl (T.gl 17 _ rfl) GV.kp GV.b .nil pass0 (pa_cons (pv 0) pa_nil)) pa_nil)))))) (pg_sub (pv 1) (pv 2) set_list))) pss_nil)
      (pss_cons (ps_if (PW.pt (pw_and (pt_cmpR op_eq (pv 10) pe_int (nomark _)) (pw_and (pt_cmpR op_ne (pe_ix ix_tup (pe_ix ix_list (pv 1) (pv 3) (fun _ _ => rfl)) pe_int (fun _ _ => rfl)) (pv 5) (nomark _)) (pw_and (pt_cmpR op_gt (pv 6) pe_int (nomark _))
          (pw_and1 (pt_cmpR (op_notInD hu65) (pe_tup (pa_cons (pe_ix ix_tup (pe_ix ix_list (pv 1) (pv 3) (fun _ _ => rfl)) pe_int (fun _ _ => rfl)) (pa_cons (pv 5) pa_nil))) (pv 9) (by rfl)))))))
        (pss_one (ps_asg (pe_tup (pa_cons (pe_ix ix_tup (pe_ix ix_list (pv 1) (pv 3) (fun _ _ => rfl)) pe_int (fun _ _ => rfl)) (pa_cons (pv 5) (pa_cons (pv 6) (pa_cons (pv 7) (pa_cons (pv 8) pa_nil)))))) (pg_sub (pv 1) (pv 2) set_list))) pss_nil)
      (pss_one (ps_if (PW.pt (pw_and (pt_cmpR op_eq (pv 10) pe_int (nomark _)) (pw_and (pt_cmpR op_ne (pe_ix ix_tup (pe_ix ix_list (pv 1) (pv 3) (fun _ _ => rfl)) pe_int (fun _ _ => rfl)) (pv 5) (nomark _))
          (pw_and1 (pt_cmpR (op_notInD hu65) (pe_tup (pa_cons (pe_ix ix_tup (pe_ix ix_list (pv 1) (pv 3) (fun _ _ => rfl)) pe_int (fun _ _ => rfl)) (pa_cons (pv 5) pa_nil))) (pv 9) (by rfl))))))
        (pss_one (ps_expr (pe_bm PySem.F.plainAttrs_list PySem.F.slot_list_insert PySem.F.type_list_insert mt_insert (pv 1) (pa_cons (pv 3) (pa_cons (pe_tup (pa_cons (pe_ix ix_tup (pe_ix ix_list (pv 1) (pv 3) (fun _ _ => rfl)) pe_int (fun _ _ => rfl)) (pa_cons (pv 5) (pa_cons (pe_op op_add pe_int (pe_call GD.ok hr1 rfl (T.gl 14 _ rfl) GD.kp GD.b .nil pass0 (pa_cons (pv 0) (pa_cons pe_int pa_nil))))
          (pa_cons (pe_ix ix_tup (pe_ix ix_list (pv 1) (pv 3) (fun _ _ => rfl)) pe_int (fun _ _ => rfl)) (pa_cons (pv 8) pa_nil)))))) pa_nil))))) pss_nil))))))))), ?_⟩
    have hLp : (refs L).length = L.length := refs_len L
    have hrl : (rws L).length = L.length := rws_len L
    refine ⟨_, rfl, _, rfl, a, _, rfl, .inl (SqL.of ha), w, _, n, rfl, W, by omega, by rw [hLp]; omega, by rw [hLp]; omega, fun r1 H1 r10 r11 W1 b1 => ?_⟩
    have ha1 := b1 _ _ ha naw
    refine ⟨_, rfl, _, rfl, a, _, rfl, .inl (SqL.of ha1), w, _, n + 1, rfl, W1, by omega, by rw [hLp]; omega, by rw [hLp]; omega, fun r2 H2 r20 r21 W2 b2 => ⟨_, _, rfl, ?_⟩⟩
    rw [hLp] at r11 r21
    obtain ⟨i, qi, hqi, _, ei⟩ := at_int (xs := L) r10 r11
    obtain ⟨j, qj, hqj, _, ej⟩ := at_int (xs := L) r20 r21
    subst ei ej
    have hil : i < L.length := (List.getElem?_eq_some_iff.mp hqi).1
    have hjl : j < L.length := (List.getElem?_eq_some_iff.mp hqj).1
    have ha2 := b2 _ _ ha1 naw
    have b02 := b1.trans b2
    have hwt : ∀ {H' : Hp} {m : Nat}, WellAt H' w m → ∀ xs, H' w ≠ some (.tup xs) := fun h xs z => by
      obtain ⟨_, _, _, e, _⟩ := h
      rw [e] at z; cases z
    have hT2 : Tups H2 L := fun q hq => b02 _ _ (hT q hq) (fun z => hwt W _ (by rw [← z]; exact hT q hq))
    have hrow := hT2 qi (List.mem_of_getElem? hqi)
    have hrowj := hT2 qj (List.mem_of_getElem? hqj)
    have hri : (rws L)[i]? = some qi.2 := by unfold rws; rw [List.getElem?_map, hqi]; rfl
    have hrj : (rws L)[j]? = some qj.2 := by unfold rws; rw [List.getElem?_map, hqj]; rfl
    have okI := wf.row qi.2 (List.mem_of_getElem? hri)
    have okJ := wf.row qj.2 (List.mem_of_getElem? hrj)
    have sA : ∀ r ∈ rws L, PyData.strOk r.a = true := fun r hr => name_str (hp _ (wf.row r hr).a)
    have sB : ∀ r ∈ rws L, PyData.strOk r.b = true := fun r hr => name_str (hp _ (wf.row r hr).b)
    refine ⟨_, rfl, _, rfl, a, _, _, _, rfl, rfl, SqL.of ha2, atI_nat (refs_of hqi), ?_⟩
    refine ⟨qi.1, cells qi.2, rfl, SqT.of hrow, rfl, _, _, rfl, _, _, rfl, _, _, rfl, _, _, rfl, _, _, rfl, rfl, ?_⟩
    -- the pairs of names
    refine ⟨_, rfl, a, rfl, ⟨_, SqL.of ha2⟩, fun D hD => ?_⟩
    refine lc_it (walk_map (K := K) (a := a) L (fun q : Addr × Rw => V.ref q.1)) (fun t H' => Same H2 H' ∧ ∃ N : RL, H' D = some (.lst (refs N)) ∧ Tups2 H' N ∧ rws N = (rws L).take t) ⟨Same.upd hD, [], upd_same, (fun q hq => absurd hq (by simp)), rfl⟩ (fun t H' _ h => SqL.of (h.1 _ _ ha2)) ?_ ?_
    · rintro t x H3 H4 ht ⟨s3, N, eD, tN, eN⟩ ⟨rfl, hx⟩
      have hqt : L[t]? = some L[t] := List.getElem?_eq_getElem ht
      generalize L[t] = qt at hqt
      obtain rfl := map_at hqt hx
      have hrt : (rws L)[t]? = some qt.2 := by unfold rws; rw [List.getElem?_map, hqt]; rfl
      have hrow3 := s3 _ _ (hT2 qt (List.mem_of_getElem? hqt))
      refine ⟨rfl, _, rfl, 2, rfl, qt.1, cells qt.2, rfl, SqT.of hrow3, (by show ¬ (HT.sIx 5 0 none = 0 ∧ HT.sIx 5 5 (some 2) = 5); decide), fun c hc => ?_⟩
      have s4 : Same H4 (upd H4 c (.tup (cutV (cells qt.2) none (some 2)))) := Same.upd hc
      have ec : (upd H4 c (.tup (cutV (cells qt.2) none (some 2)))) c = some (.tup [V.str qt.2.a, V.str qt.2.b]) := upd_same
      generalize upd H4 c (.tup (cutV (cells qt.2) none (some 2))) = H5 at s4 ec ⊢
      have eD5 := s4 _ _ eD
      have lN : N.length ≤ 900 := by
        have := congrArg List.length eN
        rw [rws_len, List.length_take] at this
        omega
      have neD : ∀ (q : Addr) (xs : List V), H5 q = some (.tup xs) → q ≠ D := fun q xs e => ne_of e eD5 (by intro z; cases z)
      refine ⟨_, eD5, by rw [refs_len]; exact small1830 (by omega), fun b o e => ?_, N ++ [(c, qt.2)], ?_, ?_, ?_⟩
      · rw [upd_ne (ne_of_none e hD)]
        exact s4 _ _ (s3 _ _ e)
      · rw [upd_same]
        unfold refs
        rw [List.map_append]
        rfl
      · intro y hy
        rcases List.mem_append.mp hy with e | e
        · have e2 := s4 _ _ (tN y e)
          rw [upd_ne (neD _ _ e2)]
          exact e2
        · rw [List.mem_singleton.mp e, upd_ne (neD _ _ ec)]
          exact ec
      · rw [FR.take_snoc hrt, ← eN]
        unfold rws
        rw [List.map_append]
        rfl
    rintro H3 ⟨s3, N, eD, tN, eN⟩
    rw [show L.length = (rws L).length from hrl.symm, List.take_length] at eN
    have W3 := W2.same s3
    have ha3 := s3 _ _ ha2
    have hDw : D ≠ w := fun z => by
      obtain ⟨_, _, _, e, _⟩ := W2
      rw [z, e] at hD; cases hD
    refine ⟨_, rfl, w, 7, n + 2, rfl, W3, by omega, by decide, by decide, fun wy H4 wy0 wy1 W4 b4 => ⟨_, _, rfl, ?_⟩⟩
    have ha4 := b4 _ _ ha3 naw
    have eD4 := b4 _ _ eD hDw
    have nwt4 := hwt W4
    have tN4 : Tups2 H4 N := fun q hq => b4 _ _ (tN q hq) (fun z => hwt W3 _ (by rw [← z]; exact tN q hq))
    have hT4 : Tups H4 L := fun q hq => b4 _ _ (s3 _ _ (hT2 q hq)) (fun z => hwt W3 _ (by rw [← z]; exact s3 _ _ (hT2 q hq)))
    have b04 : But w H H4 := b02.trans ((But.of s3).trans b4)
    have hrow4 := hT4 qi (List.mem_of_getElem? hqi)
    have hrowj4 := hT4 qj (List.mem_of_getElem? hqj)
    have hat4 : ∀ xs, H4 a ≠ some (.tup xs) := fun xs z => by rw [ha4] at z; cases z
    -- nothing changed
    have same4 : ∀ {m : Nat} {H' : Hp}, WellAt H' w m → m ≤ n + 10 → But w H4 H' → Q .non H' := fun {m H'} W' hm b' => by
      refine k L H' (b' _ _ ha4 naw) (fun q hq => b' _ _ (hT4 q hq) (fun z => nwt4 _ (by rw [← z]; exact hT4 q hq))) hl0 (Nat.le_succ _) wf (W'.mono hm) fun b o e h1 _ => b' _ _ (b04 _ _ e h1) h1
    -- a row set: u the new tuple
    have set4 : ∀ {m : Nat} {H' : Hp} {u : Addr} {r' : Rw}, WellAt H' w m → m ≤ n + 10 → But w H4 H' → H' u = some (.tup (cells r')) → FR.Wf pool ((rws L).set i r') → Q .non (upd H' a (.lst ((refs L).set i (.ref u)))) := fun {m H' u r'} W' hm b' eu wf' => by
      have ea' := b' _ _ ha4 naw
      have hT' : Tups H' L := fun q hq => b' _ _ (hT4 q hq) (fun z => nwt4 _ (by rw [← z]; exact hT4 q hq))
      have neA : ∀ (q : Addr) (xs : List V), H' q = some (.tup xs) → q ≠ a := fun q xs e => ne_of e ea' (by intro z; cases z)
      refine k (L.set i (u, r')) _ (by rw [upd_same, ← refs_set]) ?_ (by rw [List.length_set]; exact hl0) (by rw [List.length_set]; exact Nat.le_succ _) (by rw [rws_set]; exact wf') ?_ ?_
      · intro q hq
        rcases List.mem_or_eq_of_mem_set hq with h | h
        · rw [upd_ne (neA _ _ (hT' q h))]
          exact hT' q h
        · rw [h, upd_ne (neA _ _ eu)]
          exact eu
      · obtain ⟨w0, w1, w2, ew, wr⟩ := W'
        exact WellAt.mono (n := m) ⟨w0, w1, w2, by rw [upd_ne naw.symm]; exact ew, wr⟩ hm
      · intro b o e h1 h2
        rw [upd_ne h2]
        exact b' _ _ (b04 _ _ e h1) h1
    have same4' : Q .non H4 := same4 (m := n + 3) W4 (by omega) (But.refl w H4)
    have hix : ixN (refs L).length (i : Int) = some i := ixN_nat (by rw [hLp]; exact hil)
    have hsx : seqIndex? (i : Int) (refs L).length = some i := (ixN_seq hix).1
    -- the test of a new pair of names
    have notin : ∀ {H' : Hp} {t : Addr} {Qn : VK}, Same H4 H' → H' t = some (.tup [.str qj.2.a, .str qi.2.b]) → (∀ b : Bool, (b = true → ∀ x ∈ rws L, ¬ (qj.2.a = x.a ∧ qi.2.b = x.b)) → Qn (.bl b) H') → rNotInD K (.ref t) (.ref D) H' Qn := by
      intro H' t Qn s' et hq
      refine ⟨prD2 ⟨qj.2.a, qi.2.b, 0, 0, 0⟩, N.map fun q => prD2 q.2, .tup (SqT.of et) (.cons (.str _) (.cons (.str _) .nil)), .lst (SqL.of (s' _ _ eD4)) (dpAll_map _ _ _ fun q hq => .tup (SqT.of (s' _ _ (tN4 q hq))) (.cons (.str _) (.cons (.str _) .nil))), ?_, shaped_list _ ?_, hq _ ?_⟩
      · have := prD2_ok (r := ⟨qj.2.a, qi.2.b, 0, 0, 0⟩) (sA qj.2 (List.mem_of_getElem? hrj)) (sB qi.2 (List.mem_of_getElem? hri))
        show ((prD2 _).canLay0 && decide ((prD2 _).depth ≤ 64)) = true
        rw [Bool.and_eq_true]
        exact ⟨this.1, decide_eq_true (by have := this.2; omega)⟩
      · intro d hd
        obtain ⟨q, hq, rfl⟩ := List.mem_map.mp hd
        have hm : q.2 ∈ rws L := by rw [← eN]; exact mem_rws hq
        exact prD2_ok (sA _ hm) (sB _ hm)
      · intro hb x hx
        rw [Bool.not_eq_true', List.any_eq_false] at hb
        have hx2 : x ∈ rws N := by rw [eN]; exact hx
        obtain ⟨q, hq, rfl⟩ := List.mem_map.mp hx2
        have := hb (prD2 q.2) (List.mem_map.mpr ⟨q, hq, rfl⟩)
        have h3 := prD2_eqv (r := q.2) (q := ⟨qj.2.a, qi.2.b, 0, 0, 0⟩) (by simpa using this)
        exact h3
    have wyc : wy = 0 ∨ wy = 1 ∨ wy = 2 ∨ wy = 3 ∨ wy = 4 ∨ wy = 5 ∨ wy = 6 := by omega
    rcases wyc with rfl | rfl | rfl | rfl | rfl | rfl | rfl
    · -- way 0
      refine ⟨_, rfl, _, _, rfl, rfl, _, rfl, iteP (by decide) ⟨_, rfl, a, _, rfl, .inl (SqL.of ha4), _, _, rfl, rfl, _, rfl, iteC (fun e => ?_) (fun e => ?_)⟩⟩
      · rw [hLp] at e
        refine ⟨_, rfl, .inl ⟨rfl, _, SqL.of ha4⟩, _, rfl, a, _, _, i, _, rfl, rfl, ha4, by omega, by omega, hsx, refs_of hqi, ?_⟩
        refine ⟨_, rfl, rfl, _, rfl, iteN (by decide) (iteF ⟨_, rfl, rfl, _, rfl, iteN (by decide) ⟨_, rfl, rfl, _, rfl, iteN (by decide) ⟨_, rfl, rfl, _, rfl, iteN (by decide) (iteF ⟨_, rfl, rfl, _, rfl, iteN (by decide) (iteF ?_)⟩)⟩⟩⟩)⟩
        have he : (L.eraseIdx i).length = L.length - 1 := by rw [List.length_eraseIdx, if_pos hil]
        refine k (L.eraseIdx i) _ (by rw [upd_same, refs_erase]) (fun q hq => ?_) (by omega) (by omega) ?_ ?_ ?_
        · have h1 := hT4 q (List.mem_of_mem_eraseIdx hq)
          rw [upd_ne (ne_of h1 ha4 (by intro z; cases z))]
          exact h1
        · have : rws (L.eraseIdx i) = (rws L).eraseIdx i := by unfold rws; rw [map_erase]
          rw [this]
          exact wf.erase hri
        · obtain ⟨w0, w1, w2, ew, wr⟩ := W4
          exact WellAt.mono (n := n + 3) ⟨w0, w1, w2, by rw [upd_ne naw.symm]; exact ew, wr⟩ (by omega)
        · intro b o e h1 h2
          rw [upd_ne h2]
          exact b04 _ _ e h1
      · exact ⟨_, rfl, rfl, _, rfl, iteN (by decide) (iteF ⟨_, rfl, rfl, _, rfl, iteN (by decide) ⟨_, rfl, rfl, _, rfl, iteN (by decide) ⟨_, rfl, rfl, _, rfl, iteN (by decide) (iteF ⟨_, rfl, rfl, _, rfl, iteN (by decide) (iteF same4')⟩)⟩⟩⟩)⟩
    · -- way 1
      refine ⟨_, rfl, _, _, rfl, rfl, _, rfl, iteP (by decide) ⟨_, rfl, a, _, rfl, .inl (SqL.of ha4), _, _, rfl, rfl, _, rfl, iteC (fun e => ?_) (fun e => ?_)⟩⟩
      · rw [hLp] at e
        refine ⟨_, rfl, .inl ⟨rfl, _, SqL.of ha4⟩, _, rfl, a, _, _, i, _, rfl, rfl, ha4, by omega, by omega, hsx, refs_of hqi, ?_⟩
        refine ⟨_, rfl, rfl, _, rfl, iteN (by decide) (iteF ⟨_, rfl, rfl, _, rfl, iteN (by decide) ⟨_, rfl, rfl, _, rfl, iteN (by decide) ⟨_, rfl, rfl, _, rfl, iteN (by decide) (iteF ⟨_, rfl, rfl, _, rfl, iteN (by decide) (iteF ?_)⟩)⟩⟩⟩)⟩
        have he : (L.eraseIdx i).length = L.length - 1 := by rw [List.length_eraseIdx, if_pos hil]
        refine k (L.eraseIdx i) _ (by rw [upd_same, refs_erase]) (fun q hq => ?_) (by omega) (by omega) ?_ ?_ ?_
        · have h1 := hT4 q (List.mem_of_mem_eraseIdx hq)
          rw [upd_ne (ne_of h1 ha4 (by intro z; cases z))]
          exact h1
        · have : rws (L.eraseIdx i) = (rws L).eraseIdx i := by unfold rws; rw [map_erase]
          rw [this]
          exact wf.erase hri
        · obtain ⟨w0, w1, w2, ew, wr⟩ := W4
          exact WellAt.mono (n := n + 3) ⟨w0, w1, w2, by rw [upd_ne naw.symm]; exact ew, wr⟩ (by omega)
        · intro b o e h1 h2
          rw [upd_ne h2]
          exact b04 _ _ e h1
      · exact ⟨_, rfl, rfl, _, rfl, iteN (by decide) (iteF ⟨_, rfl, rfl, _, rfl, iteN (by decide) ⟨_, rfl, rfl, _, rfl, iteN (by decide) ⟨_, rfl, rfl, _, rfl, iteN (by decide) (iteF ⟨_, rfl, rfl, _, rfl, iteN (by decide) (iteF same4')⟩)⟩⟩⟩)⟩
    · -- way 2
      refine ⟨_, rfl, _, _, rfl, rfl, _, rfl, iteN (by decide) (iteF ⟨_, rfl, rfl, _, rfl, iteP rfl ⟨_, rfl, _, _, rfl, rfl, _, rfl, iteC (fun e => ?_) (fun e => ?_)⟩⟩)⟩
      · refine ⟨_, rfl, _, rfl, _, rfl, w, 3, n + 3, rfl, W4, by omega, by decide, by decide, fun r5 H5 r50 r51 W5 b5 => ⟨_, _, rfl, rfl, _, rfl, _, rfl, (by show 5 ≤ sizeLine; decide), fun u hu => ?_⟩⟩
        have sU : Same H5 (upd H5 u (.tup [.str qi.2.a, .str qi.2.b, .int (1 + r5), .int qi.2.k, .int qi.2.v])) := Same.upd hu
        have eu : (upd H5 u (.tup [.str qi.2.a, .str qi.2.b, .int (1 + r5), .int qi.2.k, .int qi.2.v])) u = some (.tup (cells ⟨qi.2.a, qi.2.b, 1 + r5, qi.2.k, qi.2.v⟩)) := upd_same
        generalize upd H5 u (.tup [.str qi.2.a, .str qi.2.b, .int (1 + r5), .int qi.2.k, .int qi.2.v]) = H6 at sU eu ⊢
        refine ⟨_, rfl, _, rfl, a, _, _, i, rfl, rfl, sU _ _ (b5 _ _ ha4 naw), hix, ?_⟩
        refine ⟨_, rfl, rfl, _, rfl, iteN (by decide) ⟨_, rfl, rfl, _, rfl, iteN (by decide) ⟨_, rfl, rfl, _, rfl, iteN (by decide) (iteF ⟨_, rfl, rfl, _, rfl, iteN (by decide) (iteF ?_)⟩)⟩⟩⟩
        refine set4 (W5.same sU) (by omega) (b5.same sU) eu (wf.setSame hri ⟨okI.a, okI.b, by show 0 ≤ 1 + r5; omega, okI.k0, ?_, okI.lo, okI.hi⟩ rfl rfl)
        have := okI.eq
        show 1 + r5 = 0 ↔ qi.2.a = qi.2.b
        rw [← this]
        omega
      · exact ⟨_, rfl, rfl, _, rfl, iteN (by decide) ⟨_, rfl, rfl, _, rfl, iteN (by decide) ⟨_, rfl, rfl, _, rfl, iteN (by decide) (iteF ⟨_, rfl, rfl, _, rfl, iteN (by decide) (iteF same4')⟩)⟩⟩⟩
    · -- way 3
      refine ⟨_, rfl, _, _, rfl, rfl, _, rfl, iteN (by decide) (iteF ⟨_, rfl, rfl, _, rfl, iteN (by decide) (iteF ⟨_, rfl, rfl, _, rfl, iteP rfl ?_⟩)⟩)⟩
      refine ⟨_, rfl, _, rfl, _, rfl, _, rfl, w, 4, n + 3, rfl, W4, by omega, by decide, by decide, fun r5 H5 r50 r51 W5 b5 => ⟨_, rfl, (by show 5 ≤ sizeLine; decide), fun u hu => ?_⟩⟩
      have sU : Same H5 (upd H5 u (.tup [.str qi.2.a, .str qi.2.b, .int qi.2.s, .int r5, .int qi.2.v])) := Same.upd hu
      have eu : (upd H5 u (.tup [.str qi.2.a, .str qi.2.b, .int qi.2.s, .int r5, .int qi.2.v])) u = some (.tup (cells ⟨qi.2.a, qi.2.b, qi.2.s, r5, qi.2.v⟩)) := upd_same
      generalize upd H5 u (.tup [.str qi.2.a, .str qi.2.b, .int qi.2.s, .int r5, .int qi.2.v]) = H6 at sU eu ⊢
      refine ⟨_, rfl, _, rfl, a, _, _, i, rfl, rfl, sU _ _ (b5 _ _ ha4 naw), hix, ?_⟩
      refine ⟨_, rfl, rfl, _, rfl, iteN (by decide) ⟨_, rfl, rfl, _, rfl, iteN (by decide) (iteF ⟨_, rfl, rfl, _, rfl, iteN (by decide) (iteF ?_)⟩)⟩⟩
      exact set4 (W5.same sU) (by omega) (b5.same sU) eu (wf.setSame hri ⟨okI.a, okI.b, okI.s0, r50, okI.eq, okI.lo, okI.hi⟩ rfl rfl)
    · -- way 4
      refine ⟨_, rfl, _, _, rfl, rfl, _, rfl, iteN (by decide) (iteF ⟨_, rfl, rfl, _, rfl, iteN (by decide) (iteF ⟨_, rfl, rfl, _, rfl, iteN (by decide) ⟨_, rfl, rfl, _, rfl, iteP rfl ?_⟩⟩)⟩)⟩
      refine ⟨_, rfl, _, rfl, _, rfl, _, rfl, _, rfl, w, n + 3, rfl, W4, by omega, fun v5 H5 v50 v51 W5 b5 => ⟨(by show 5 ≤ sizeLine; decide), fun u hu => ?_⟩⟩
      have sU : Same H5 (upd H5 u (.tup [.str qi.2.a, .str qi.2.b, .int qi.2.s, .int qi.2.k, .int v5])) := Same.upd hu
      have eu : (upd H5 u (.tup [.str qi.2.a, .str qi.2.b, .int qi.2.s, .int qi.2.k, .int v5])) u = some (.tup (cells ⟨qi.2.a, qi.2.b, qi.2.s, qi.2.k, v5⟩)) := upd_same
      generalize upd H5 u (.tup [.str qi.2.a, .str qi.2.b, .int qi.2.s, .int qi.2.k, .int v5]) = H6 at sU eu ⊢
      refine ⟨_, rfl, _, rfl, a, _, _, i, rfl, rfl, sU _ _ (b5 _ _ ha4 naw), hix, ?_⟩
      refine ⟨_, rfl, rfl, _, rfl, iteN (by decide) (iteF ⟨_, rfl, rfl, _, rfl, iteN (by decide) (iteF ?_)⟩)⟩
      exact set4 (W5.same sU) (by omega) (b5.same sU) eu (wf.setSame hri ⟨okI.a, okI.b, okI.s0, okI.k0, okI.eq, v50, v51⟩ rfl rfl)
    · -- way 5
      refine ⟨_, rfl, _, _, rfl, rfl, _, rfl, iteN (by decide) (iteF ⟨_, rfl, rfl, _, rfl, iteN (by decide) (iteF ⟨_, rfl, rfl, _, rfl, iteN (by decide) ⟨_, rfl, rfl, _, rfl, iteN (by decide) ⟨_, rfl, rfl, _, rfl, iteP rfl ?_⟩⟩⟩)⟩)⟩
      refine ⟨_, rfl, _, rfl, a, _, _, _, rfl, rfl, SqL.of ha4, atI_nat (refs_of hqj), qj.1, cells qj.2, 0, _, rfl, rfl, SqT.of hrowj4, rfl, _, rfl, rfl, _, rfl, iteNC (fun e => ?_) (fun e => ?_)⟩
      · refine ⟨_, rfl, _, _, rfl, rfl, _, rfl, iteC (fun e1 => ?_) (fun e1 => ?_)⟩
        · refine ⟨_, rfl, _, rfl, a, _, _, _, rfl, rfl, SqL.of ha4, atI_nat (refs_of hqj), qj.1, cells qj.2, 0, _, rfl, rfl, SqT.of hrowj4, rfl, _, rfl, (by show 2 ≤ sizeLine; decide), fun t ht => ⟨_, rfl, notin (Same.upd ht) upd_same fun bb hbb => ⟨_, rfl, ?_⟩⟩⟩
          have sT : Same H4 (upd H4 t (.tup [.str qj.2.a, .str qi.2.b])) := Same.upd ht
          generalize upd H4 t (.tup [.str qj.2.a, .str qi.2.b]) = H5 at sT ⊢
          cases bb with
          | true =>
            refine iteT ⟨_, rfl, _, rfl, a, _, _, _, rfl, rfl, SqL.of (sT _ _ ha4), atI_nat (refs_of hqj), qj.1, cells qj.2, 0, _, rfl, rfl, SqT.of (sT _ _ hrowj4), rfl, _, rfl, _, rfl, _, rfl, _, rfl, (by show 5 ≤ sizeLine; decide), fun u hu => ?_⟩
            have sU : Same H5 (upd H5 u (.tup [.str qj.2.a, .str qi.2.b, .int qi.2.s, .int qi.2.k, .int qi.2.v])) := Same.upd hu
            have eu : (upd H5 u (.tup [.str qj.2.a, .str qi.2.b, .int qi.2.s, .int qi.2.k, .int qi.2.v])) u = some (.tup (cells ⟨qj.2.a, qi.2.b, qi.2.s, qi.2.k, qi.2.v⟩)) := upd_same
            generalize upd H5 u (.tup [.str qj.2.a, .str qi.2.b, .int qi.2.s, .int qi.2.k, .int qi.2.v]) = H6 at sU eu ⊢
            refine ⟨_, rfl, _, rfl, a, _, _, i, rfl, rfl, sU _ _ (sT _ _ ha4), hix, ?_⟩
            refine ⟨_, rfl, rfl, _, rfl, iteN (by decide) (iteF ?_)⟩
            refine set4 ((W4.same sT).same sU) (by omega) ((But.of sT).same sU) eu (wf.setNew hri ⟨okJ.a, okI.b, okI.s0, okI.k0, ?_, okI.lo, okI.hi⟩ (hbb rfl))
            show qi.2.s = 0 ↔ qj.2.a = qi.2.b
            constructor
            · intro z; omega
            · intro z; exact absurd (by rw [z]) e
          | false => exact iteF ⟨_, rfl, rfl, _, rfl, iteN (by decide) (iteF (same4 (W4.same sT) (by omega) (But.of sT)))⟩
        · exact iteF ⟨_, rfl, rfl, _, rfl, iteN (by decide) (iteF same4')⟩
      · exact iteF ⟨_, rfl, rfl, _, rfl, iteN (by decide) (iteF same4')⟩
    · -- way 6
      refine ⟨_, rfl, _, _, rfl, rfl, _, rfl, iteN (by decide) (iteF ⟨_, rfl, rfl, _, rfl, iteN (by decide) (iteF ⟨_, rfl, rfl, _, rfl, iteN (by decide) ⟨_, rfl, rfl, _, rfl, iteN (by decide) ⟨_, rfl, rfl, _, rfl, iteN (by decide) (iteF ⟨_, rfl, rfl, _, rfl, iteP rfl ?_⟩)⟩⟩⟩)⟩)⟩
      refine ⟨_, rfl, _, rfl, a, _, _, _, rfl, rfl, SqL.of ha4, atI_nat (refs_of hqj), qj.1, cells qj.2, 0, _, rfl, rfl, SqT.of hrowj4, rfl, _, rfl, rfl, _, rfl, iteNC (fun e => ?_) (fun e => ?_)⟩
      · refine ⟨_, rfl, _, rfl, a, _, _, _, rfl, rfl, SqL.of ha4, atI_nat (refs_of hqj), qj.1, cells qj.2, 0, _, rfl, rfl, SqT.of hrowj4, rfl, _, rfl, (by show 2 ≤ sizeLine; decide), fun t ht => ⟨_, rfl, notin (Same.upd ht) upd_same fun bb hbb => ⟨_, rfl, ?_⟩⟩⟩
        have sT : Same H4 (upd H4 t (.tup [.str qj.2.a, .str qi.2.b])) := Same.upd ht
        generalize upd H4 t (.tup [.str qj.2.a, .str qi.2.b]) = H5 at sT ⊢
        cases bb with
        | true =>
          have haT := sT _ _ ha4
          refine iteT ⟨_, rfl, .inl ⟨rfl, _, SqL.of haT⟩, _, rfl, ?_⟩
          refine ⟨_, rfl, _, rfl, a, _, _, _, rfl, rfl, SqL.of haT, atI_nat (refs_of hqj), qj.1, cells qj.2, 0, _, rfl, rfl, SqT.of (sT _ _ hrowj4), rfl, _, rfl, ?_⟩
          refine ⟨_, rfl, w, 3, n + 3, rfl, W4.same sT, by omega, by decide, by decide, fun r5 H6 r50 r51 W6 b6 => ⟨_, _, rfl, rfl, ?_⟩⟩
          have hj6 := b6 _ _ (sT _ _ hrowj4) (fun z => hwt (W4.same sT) _ (by rw [← z]; exact sT _ _ hrowj4))
          refine ⟨_, rfl, _, rfl, a, _, _, _, rfl, rfl, SqL.of (b6 _ _ haT naw), atI_nat (refs_of hqj), qj.1, cells qj.2, 3, _, rfl, rfl, SqT.of hj6, rfl, _, rfl, (by show 5 ≤ sizeLine; decide), fun u hu => ?_⟩
          have sU : Same H6 (upd H6 u (.tup [.str qj.2.a, .str qi.2.b, .int (1 + r5), .int qj.2.k, .int qi.2.v])) := Same.upd hu
          have eu : (upd H6 u (.tup [.str qj.2.a, .str qi.2.b, .int (1 + r5), .int qj.2.k, .int qi.2.v])) u = some (.tup (cells ⟨qj.2.a, qi.2.b, 1 + r5, qj.2.k, qi.2.v⟩)) := upd_same
          generalize upd H6 u (.tup [.str qj.2.a, .str qi.2.b, .int (1 + r5), .int qj.2.k, .int qi.2.v]) = H7 at sU eu ⊢
          have ha7 := sU _ _ (b6 _ _ haT naw)
          refine ⟨a, _, _, _, rfl, rfl, ha7, by rw [hLp]; exact small1830 (by omega), by omega, by omega, ?_⟩
          have hT7 : Tups H7 L := fun q hq => sU _ _ (b6 _ _ (sT _ _ (hT4 q hq)) (fun z => nwt4 _ (by rw [← z]; exact hT4 q hq)))
          have eR : (refs L).take (j : Int).toNat ++ [V.ref u] ++ (refs L).drop (j : Int).toNat = refs (L.take j ++ [(u, ⟨qj.2.a, qi.2.b, 1 + r5, qj.2.k, qi.2.v⟩)] ++ L.drop j) := by
            unfold refs
            rw [List.map_append, List.map_append, List.map_take, List.map_drop]
            rfl
          refine k (L.take j ++ [(u, ⟨qj.2.a, qi.2.b, 1 + r5, qj.2.k, qi.2.v⟩)] ++ L.drop j) _ (by rw [upd_same, eR]) ?_ (by rw [List.length_append, List.length_append, List.length_singleton]; omega) (by rw [List.length_append, List.length_append, List.length_singleton, List.length_take, List.length_drop]; omega) ?_ ?_ ?_
          · intro q hq
            have hne : ∀ (q : Addr) (xs : List V), H7 q = some (.tup xs) → q ≠ a := fun q xs e => ne_of e ha7 (by intro z; cases z)
            rcases List.mem_append.mp hq with h | h
            · rcases List.mem_append.mp h with h | h
              · rw [upd_ne (hne _ _ (hT7 q (List.mem_of_mem_take h)))]
                exact hT7 q (List.mem_of_mem_take h)
              · rw [List.mem_singleton.mp h, upd_ne (hne _ _ eu)]
                exact eu
            · rw [upd_ne (hne _ _ (hT7 q (List.mem_of_mem_drop h)))]
              exact hT7 q (List.mem_of_mem_drop h)
          · have w1 : FR.Wf pool ((⟨qj.2.a, qi.2.b, 1 + r5, qj.2.k, qi.2.v⟩ : Rw) :: rws L) := by
              refine wf.insert (i := 0) (Nat.zero_le _) ⟨okJ.a, okI.b, by show 0 ≤ 1 + r5; omega, okJ.k0, ?_, okI.lo, okI.hi⟩ (hbb rfl)
              show 1 + r5 = 0 ↔ qj.2.a = qi.2.b
              constructor
              · intro z; omega
              · intro z; exact absurd (by rw [z]) e
            refine w1.perm ?_
            have er : rws (L.take j ++ [(u, (⟨qj.2.a, qi.2.b, 1 + r5, qj.2.k, qi.2.v⟩ : Rw))] ++ L.drop j) = (rws L).take j ++ [(⟨qj.2.a, qi.2.b, 1 + r5, qj.2.k, qi.2.v⟩ : Rw)] ++ (rws L).drop j := by
              unfold rws
              rw [List.map_append, List.map_append, List.map_take, List.map_drop]
              rfl
            rw [er, List.append_assoc]
            have := (List.perm_middle (a := (⟨qj.2.a, qi.2.b, 1 + r5, qj.2.k, qi.2.v⟩ : Rw)) (l₁ := (rws L).take j) (l₂ := (rws L).drop j)).symm
            rw [List.take_append_drop] at this
            exact this
          · obtain ⟨w0, w1, w2, ew, wr⟩ := W6.same sU
            exact WellAt.mono (n := n + 3 + 1) ⟨w0, w1, w2, by rw [upd_ne naw.symm]; exact ew, wr⟩ (by omega)
          · intro b o e h1 h2
            rw [upd_ne h2]
            exact sU _ _ (b6 _ _ (sT _ _ (b04 _ _ e h1)) h1)
        | false => exact iteF (same4 (W4.same sT) (by omega) (But.of sT))
      · exact iteF same4'
end
end KW
end

section
set_option Elab.async false
set_option linter.all false
set_option maxRecDepth 100000
set_option maxHeartbeats 4000000
/-! Forest: its rows looked at, kept. -/
namespace KW
open PySem PySem.Spec PyProof.Rows L2 KR
theorem xrefs_len (X : XL) : (xrefs X).length = X.length := List.length_map _
theorem xrs_len (X : XL) : (xrs X).length = X.length := List.length_map _
theorem xrefs_take (L : XL) (i : Nat) : (xrefs L).take i = xrefs (L.take i) := by
  unfold xrefs
  rw [List.map_take]
theorem x_at {X : XL} {i : Nat} {x : Xr} (h : (xrs X)[i]? = some x) : ∃ q : Addr, X[i]? = some (q, x) ∧ (xrefs X)[i]? = some (.ref q) := by
  unfold xrs at h
  rw [List.getElem?_map] at h
  cases e : X[i]? with
  | none => rw [e] at h; cases h
  | some q =>
    rw [e] at h
    have e2 : q.2 = x := Option.some.inj h
    refine ⟨q.1, by rw [← e2], ?_⟩
    unfold xrefs
    rw [List.getElem?_map, e]
    rfl
/-- a forest's rows as Forest wants them -/
structure FNm (xs : List Xr) : Prop where
  f : FIn xs
  nm : ∀ x ∈ xs, NameOk x.1
section
variable {P : Program} {w : World} {K : PySem.W.Frag} {mg : Str → Option Value} {base : Heap}
def spRowFault : Sp := fun vs H Q _ => ∃ (a : Addr) (i : Nat) (X : XL), vs = [.ref a, .int (i : Nat)] ∧ H a = some (.lst (xrefs X)) ∧ XTups H X ∧ FNm (xrs X) ∧ i < X.length ∧ ∀ H', Same H H' → Q .non H'
abbrev NRF : List Str := ["rows", "place", "row", "name", "value", "level", "other"]
theorem ndRF : NRF.Nodup := by decide +kernel
theorem ok_rowfault (T : TX K mg) : DfX P w K mg base 3 dRowFault ["rows", "place"] spRowFault := by
  obtain ⟨fdI, GI⟩ := ok_int (P := P) (w := w) (base := base) T
  obtain ⟨fdS, GS⟩ := ok_seq (P := P) (w := w) (base := base) T
  obtain ⟨fdN, GN⟩ := ok_name (P := P) (w := w) (base := base) T
  obtain ⟨fdV, GV⟩ := ok_value (P := P) (w := w) (base := base) T
  refine df_mk T 6 rfl (N := NRF) ⟨rfl, rfl, rfl, by decide +kernel, rfl, by decide +kernel, by decide +kernel⟩ (fun _ _ _ _ _ _ us hl => match us, hl with | [_, _], _ => rfl) (fun vs H Q E h => ?_) (fun cdv A outer s H vs Q E hr h => ?_)
  · obtain ⟨a, i, X, rfl, _⟩ := h
    rfl
  · obtain ⟨a, i, X, rfl, ha, hX, F, hi, k⟩ := h
    have hr1 := hr.mono (j := 1) (by decide)
    have hl60 := F.f.len
    rw [xrs_len] at hl60
    obtain ⟨x, hxi⟩ : ∃ x, (xrs X)[i]? = some x := ⟨_, List.getElem?_eq_getElem (by rw [xrs_len]; exact hi)⟩
    obtain ⟨q, hq, hqr⟩ := x_at hxi
    have hrow := hX (q, x) (List.mem_of_getElem? hq)
    have hxm := List.mem_of_getElem? hxi
    refine ⟨_, pss_cons (ps_set (i := 2) ndRF rfl (Or.inl rfl) (pe_ix ix_list (pv 0) (pv 1) (fun _ _ => rfl)))
      (pss_cons (ps_if (PW.pt (pw_or (pt_not (pt_val (pe_call GS.ok hr1 rfl (T.gl 7 _ rfl) GS.kp GS.b .nil pass0 (pa_cons (pv 2) pa_nil))))
        (pw_or1 (pt_cmpR op_ne (pe_callB call_len_seq (by rfl) T.len PySem.boot_len (pa_cons (pv 2) pa_nil)) pe_int (nomark _))))) (pss_one (ps_ret pe_str)) pss_nil)
      (pss_cons (ps_asg (pv 2) (pg_tup rfl (pgs_cons (pg_name (i := 3) ndRF rfl (Or.inl rfl)) (pgs_cons (pg_name (i := 4) ndRF rfl (Or.inl rfl)) (pgs_cons (pg_name (i := 5) ndRF rfl (Or.inl rfl)) pgs_nil)))))
      (pss_cons (ps_if (pt_not (pt_val (pe_call GN.ok hr1 rfl (T.gl 8 _ rfl) GN.kp GN.b .nil pass0 (pa_cons (pv 3) pa_nil)))) (pss_one (ps_ret pe_str)) pss_nil)
      (pss_cons (ps_if (pt_not (pt_val (pe_call GV.ok hr rfl (T.gl 9 _ rfl) GV.kp GV.b .nil pass0 (pa_cons (pv 4) pa_nil)))) (pss_one (ps_ret pe_str)) pss_nil)
      (pss_cons (ps_if (PW.pt (pw_or (pt_not (pt_val (pe_call GI.ok hr1 rfl (T.gl 6 _ rfl) GI.kp GI.b .nil pass0 (pa_cons (pv 5) pa_nil))))
        (pw_or1 (pt_not (pt_chain op_le op_le pe_int (pv 5) (pe_ifExp (pt_cmpR op_gt (pv 1) pe_int (nomark _)) (pe_op op_add (pe_ix ix_tup (pe_ix ix_list (pv 0) (pe_op op_sub (pv 1) pe_int) (fun _ _ => rfl)) pe_int (fun _ _ => rfl)) pe_int) pe_int)))))) (pss_one (ps_ret pe_str)) pss_nil)
      (pss_one (ps_ret (pe_ifExp (pt_cmpR op_in_seq (pv 3) (pe_lc (own := [("other", 6)]) (g := gName 6) (tt := tYes) rfl ndRF (pi_list (pe_slice sl_list (pv 0) po_none (po_some (pv 1)))) (blkOk_by (N := NRF) (sc := dRowFault.scope) (by decide +kernel))
        (fun _ _ _ _ _ => pg_name (i := 6) ndRF rfl (Or.inl rfl)) (fun _ _ _ _ _ => pts_nil) (fun _ _ _ _ _ => pe_ix (ix_tupK K rfl) (pv 6) pe_int (fun _ _ => rfl))) (by rfl)) pe_str pe_non)))))))), ?_⟩
    refine ⟨_, rfl, _, rfl, a, _, _, _, rfl, rfl, SqL.of ha, atI_nat hqr, ?_⟩
    refine ⟨_, rfl, q, rfl, .inr ⟨_, hrow⟩, fun H1 s1 => ⟨true, rfl, iteF ?_⟩⟩
    refine ⟨_, rfl, q, _, rfl, .inr (SqT.of (s1 _ _ hrow)), rfl, _, rfl, iteNN rfl ?_⟩
    refine ⟨_, rfl, q, cells3 x, rfl, SqT.of (s1 _ _ hrow), rfl, _, _, rfl, _, _, rfl, _, _, rfl, rfl, ?_⟩
    refine ⟨_, rfl, x.1, rfl, F.nm x hxm, fun H2 s2 => ⟨true, rfl, iteF ?_⟩⟩
    refine ⟨_, rfl, x.2.1, rfl, (F.f.vl x hxm).1, (F.f.vl x hxm).2, true, rfl, iteF ?_⟩
    refine ⟨_, rfl, (x.2.2 : Int), rfl, true, rfl, iteF ?_⟩
    have s02 := s1.trans s2
    have ha2 := s02 _ _ ha
    have hlev := F.f.lv i x hxi
    refine ⟨_, rfl, _, _, rfl, rfl, _, rfl, iteP (Int.natCast_nonneg _) ?_⟩
    refine ⟨_, rfl, _, _, rfl, rfl, _, rfl, ?_⟩
    by_cases hi0 : (0 : Int) < (i : Int)
    case' pos =>
      refine iteP hi0 ?_
      obtain ⟨j, hji⟩ : ∃ j, i = j + 1 := ⟨i - 1, by omega⟩
      obtain ⟨y, hxj⟩ : ∃ y, (xrs X)[j]? = some y := ⟨_, List.getElem?_eq_getElem (by rw [xrs_len]; omega)⟩
      obtain ⟨qj, hqj, hqjr⟩ := x_at hxj
      have hrj := s02 _ _ (hX (qj, y) (List.mem_of_getElem? hqj))
      have hle := hlev.2 j y hji hxj
      refine ⟨_, rfl, _, rfl, _, _, rfl, rfl, a, _, (j : Int), _, rfl, (by show V.int ((i : Int) - 1) = V.int (j : Int); congr 1; omega), SqL.of ha2, atI_nat hqjr, qj, cells3 y, 2, _, rfl, rfl, SqT.of hrj, rfl, _, _, rfl, rfl, ?_⟩
      refine ⟨_, _, rfl, rfl, _, rfl, ?_⟩
      rw [decide_eq_true (show ((x.2.2 : Int) ≤ (y.2.2 : Int) + 1) by omega)]
    case' neg =>
      refine iteN hi0 ?_
      have hle := hlev.1 (by omega)
      refine ⟨_, _, rfl, rfl, _, rfl, ?_⟩
      rw [decide_eq_true (show ((x.2.2 : Int) ≤ 0) by omega)]
    all_goals
      refine iteF ?_
      refine ⟨_, rfl, _, rfl, _, rfl, _, rfl, a, _, rfl, SqL.of ha2, fun p hp => ?_⟩
      have ii := (List.getElem?_eq_some_iff.mp hxi).1
      rw [xrs_len] at ii
      have s3 : Same H2 (upd H2 p (.lst (cutV (xrefs X) none (some (i : Int))))) := Same.upd hp
      have ep : (upd H2 p (.lst (cutV (xrefs X) none (some (i : Int))))) p = some (.lst (xrefs (X.take i))) := by
        rw [upd_same, cutV_pre (by rw [xrefs_len]; exact Nat.le_of_lt ii), xrefs_take]
      generalize upd H2 p (.lst (cutV (xrefs X) none (some (i : Int)))) = H3 at s3 ep ⊢
      refine ⟨p, rfl, ⟨_, SqL.of ep⟩, fun D hD => ?_⟩
      refine lc_map (X.take i) (fun q => some (V.str q.2.1)) (walk_map _ (fun q : Addr × Xr => V.ref q.1)) hD (by rw [List.length_take]; exact small1830 (by omega)) (fun H4 s4 => SqL.of (s4 _ _ ep)) ?_ ?_
      · rintro j' n v H5 H4 Rr N hn s4 ⟨rfl, hx⟩ hR hN
        obtain rfl := map_at hn hx
        have hrow4 := s4 _ _ (s3 _ _ (s02 _ _ (hX n (List.mem_of_mem_take (List.mem_of_getElem? hn)))))
        exact ⟨rfl, _, rfl, n.1, cells3 n.2, 0, _, rfl, rfl, SqT.of hrow4, rfl, hR _ _ rfl (Same.refl _)⟩
      · intro H4 s4 e4
        have e5 : ((X.take i).filterMap fun q => some (V.str q.2.1)) = ((xrs (X.take i)).map (·.1)).map V.str := by
          rw [List.filterMap_eq_map']
          unfold xrs
          rw [List.map_map, List.map_map] <;> rfl
        rw [e5] at e4
        refine ⟨D, _, rfl, .inl (SqL.of e4), rfl, flat_str _, _, rfl, cast_if (inV_str _ _) (iteN ?_ (k _ ((s02.trans s3).trans s4)))⟩
        intro hm
        obtain ⟨y', hy', ey'⟩ := List.mem_map.mp hm
        have hxt : xrs (X.take i) = (xrs X).take i := by unfold xrs; rw [List.map_take]
        rw [hxt] at hy'
        obtain ⟨t, ht1, ht2⟩ : ∃ t, t < i ∧ (xrs X)[t]? = some y' := by
          obtain ⟨t, ht⟩ := List.mem_iff_getElem?.mp hy'
          have h1 := (List.getElem?_eq_some_iff.mp ht).1
          rw [List.length_take] at h1
          rw [List.getElem?_take_of_lt (by omega)] at ht
          exact ⟨t, by omega, ht⟩
        have nd := F.f.nd
        have p1 : ((xrs X).map (·.1))[t]? = some x.1 := by rw [List.getElem?_map, ht2, ← ey']; rfl
        have p2 : ((xrs X).map (·.1))[i]? = some x.1 := by rw [List.getElem?_map, hxi]; rfl
        have := (List.getElem?_inj (by rw [List.length_map, xrs_len]; omega) nd).mp (p1.trans p2.symm)
        omega
end
end KW
end

section
set_option Elab.async false
set_option linter.all false
set_option maxRecDepth 100000
set_option maxHeartbeats 4000000
/-! Forest.__init__. -/
namespace KW
open PySem PySem.Spec PyProof.Rows L2 KR
def ForestAt (K : PySem.W.Frag) (H : Hp) (p : Addr) (X : XL) : Prop := ∃ (dx tr o sp : Addr), H p = some (.ins (He.ga K "Forest") dx [(("rows" : Str), V.ref tr), (("order" : Str), V.ref o), (("spots" : Str), V.ref sp)]) ∧ H tr = some (.tup (xrefs X))
section
variable {P : Program} {w : World} {K : PySem.W.Frag} {mg : Str → Option Value} {base : Heap}
def spOInit (K : PySem.W.Frag) : Sp := fun vs H Q _ => ∃ (p dx a : Addr) (X : XL), vs = [.ref p, .ref a] ∧ H p = some (.ins (He.ga K "Forest") dx []) ∧ H a = some (.lst (xrefs X)) ∧ XTups H X ∧ FNm (xrs X) ∧
  ∀ H', ForestAt K H' p X → But p H H' → Q .non H'
abbrev NOi : List Str := ["self", "rows", "place", "why", "row"]
theorem ndOi : NOi.Nodup := by decide +kernel
theorem ok_oinit (T : TX K mg) : DfX P w K mg base 4 dForestInit ["self", "rows"] (spOInit K) := by
  obtain ⟨fdS, GS⟩ := ok_seq (P := P) (w := w) (base := base) T
  obtain ⟨fdR, GR⟩ := ok_rowfault (P := P) (w := w) (base := base) T
  obtain ⟨um, cr, cv⟩ := T.oMost
  refine df_mk T 37 rfl (N := NOi) ⟨rfl, rfl, rfl, by decide +kernel, rfl, by decide +kernel, by decide +kernel⟩ (fun _ _ _ _ _ _ us hl => match us, hl with | [_, _], _ => rfl) (fun vs H Q E h => ?_) (fun cdv A outer s H vs Q E hr h => ?_)
  · obtain ⟨p, dx, a, X, rfl, _⟩ := h
    rfl
  · obtain ⟨p, dx, a, X, rfl, hp, ha, hX, F, k⟩ := h
    have hu := hu_of hr
    have hr1 := hr.mono (j := 1) (by decide)
    have hl60 := F.f.len
    rw [xrs_len] at hl60
    have npa : a ≠ p := ne_of ha hp (by intro z; cases z)
    have nq : ∀ q ∈ X, q.1 ≠ p := fun q hq => ne_of (hX q hq) hp (by intro z; cases z)
    refine ⟨_, pss_cons (ps_if (PW.pt (pw_or (pt_not (pt_val (pe_call GS.ok hr1 rfl (T.gl 7 _ rfl) GS.kp GS.b .nil pass0 (pa_cons (pv 1) pa_nil))))
        (pw_or1 (pt_cmpR op_gt (pe_callB call_len_seq (by rfl) T.len PySem.boot_len (pa_cons (pv 1) pa_nil)) (ClX.pe_cval (pe_glob rfl (T.gl 3 _ rfl) (v := .ref (He.ga K "Forest")) rfl)) (nomark _))))) pss_never pss_nil)
      (pss_cons (ps_for PassesOwn.never rfl (pi_range1 (by rfl) T.range (pa_cons (pe_callB call_len_seq (by rfl) T.len PySem.boot_len (pa_cons (pv 1) pa_nil)) pa_nil)) (pg_name (i := 2) ndOi rfl (Or.inl rfl))
        (pss_cons (ps_set (i := 3) ndOi rfl (Or.inl rfl) (pe_call GR.ok hr rfl (T.gl 12 _ rfl) GR.kp GR.b .nil pass0 (pa_cons (pv 1) (pa_cons (pv 2) pa_nil))))
        (pss_one (ps_if (pt_cmpR op_notN (pv 3) pe_non (nomark _)) pss_never pss_nil))))
      (pss_cons (ps_fld (pv 0) (pe_callTy call_tuple_of (by rfl) T.tuple boot_tuple (pa_cons (pe_lc (own := [("row", 4)]) (g := gName 4) (tt := tYes) rfl ndOi (pi_list (pv 1)) (blkOk_by (N := NOi) (sc := dForestInit.scope) (by decide +kernel))
          (fun _ _ _ _ _ => pg_name (i := 4) ndOi rfl (Or.inl rfl)) (fun _ _ _ _ _ => pts_nil) (fun _ _ _ _ _ => pe_callTy (call_tupK K rfl) (by rfl) T.tuple boot_tuple (pa_cons (pv 4) pa_nil))) pa_nil)) rfl)
      (pss_cons (ps_fld (pv 0) (pe_callTy call_tuple_of (by rfl) T.tuple boot_tuple (pa_cons (pe_lc (own := [("row", 4)]) (g := gName 4) (tt := tYes) rfl ndOi (pi_list (pv 1)) (blkOk_by (N := NOi) (sc := dForestInit.scope) (by decide +kernel))
          (fun _ _ _ _ _ => pg_name (i := 4) ndOi rfl (Or.inl rfl)) (fun _ _ _ _ _ => pts_nil) (fun _ _ _ _ _ => pe_ix (ix_tupK K rfl) (pv 4) pe_int (fun _ _ => rfl))) pa_nil)) rfl)
      (pss_one (ps_fld (pv 0) (pe_dpx (own := [("place", 2), ("row", 4)]) (O := .dK []) (g := gTup K 2 (gCons (gName 2) (gCons (gName 4) gNil))) (tk := tOp (rIxT K) (tVar 4) (tC (.int 0))) (.inl rfl) hu rfl ndOi (pi_enum (by rfl) T.enum (pa_cons (pv 1) pa_nil)) (blkOk_by (N := NOi) (sc := dForestInit.scope) (by decide +kernel))
          (fun _ _ _ _ _ => pg_tup rfl (pgs_cons (pg_name (i := 2) ndOi rfl (Or.inl rfl)) (pgs_cons (pg_name (i := 4) ndOi rfl (Or.inl rfl)) pgs_nil)))
          (fun _ _ _ _ _ => pts_nil) (fun _ _ _ _ _ => pe_ix (ix_tupK K rfl) (pv 4) pe_int (fun _ _ => rfl)) (fun _ _ _ _ _ => pv 2)) rfl))))), ?_⟩
    refine ⟨_, rfl, a, rfl, .inl ⟨_, ha⟩, fun H1 s1 => ⟨true, rfl, iteF ?_⟩⟩
    refine ⟨_, rfl, a, _, rfl, .inl (SqL.of (s1 _ _ ha)), _, _, _, _, rfl, cr, cv, _, _, rfl, rfl, _, rfl, iteN (by rw [xrefs_len]; omega) ?_⟩
    refine ⟨_, rfl, a, _, rfl, .inl (SqL.of (s1 _ _ ha)), ((xrefs X).length : Int), rfl, (by rw [xrefs_len]; omega), (by rw [xrefs_len]; omega), ?_⟩
    refine for_range (lo := 0) (n := (xrefs X).length) (fun i σ H' => (∃ v2 v3, σ = [some (.ref p), some (.ref a), v2, v3, none]) ∧ Same H H') ⟨⟨_, _, rfl⟩, s1⟩ ?_ ?_
    · rintro i σ H2 hi ⟨⟨v2, v3, rfl⟩, s2⟩
      rw [xrefs_len] at hi
      refine ⟨_, rfl, _, rfl, a, i, X, (by rw [Int.zero_add]; rfl), s2 _ _ ha, (fun q hq => s2 _ _ (hX q hq)), F, hi, fun H3 s3 => ?_⟩
      exact ⟨_, rfl, rfl, _, rfl, iteNN rfl ⟨⟨_, _, rfl⟩, s2.trans s3⟩⟩
    rintro σ H2 ⟨⟨v2, v3, rfl⟩, s2⟩
    have ha2 := s2 _ _ ha
    have hX2 : XTups H2 X := fun q hq => s2 _ _ (hX q hq)
    -- self.rows
    refine ⟨_, rfl, a, rfl, ⟨_, SqL.of ha2⟩, fun D hD => ?_⟩
    refine lc_map X (fun q => some (V.ref q.1)) (walk_map _ (fun q : Addr × Xr => V.ref q.1)) hD (small1830 (by omega)) (fun H3 s3 => SqL.of (s3 _ _ ha2)) ?_ ?_
    · rintro j n v H4 H3 Rr N hn s3 ⟨rfl, hx⟩ hR hN
      obtain rfl := map_at hn hx
      exact ⟨rfl, _, rfl, n.1, cells3 n.2, rfl, .inr ⟨SqT.of (s3 _ _ (hX2 n (List.mem_of_getElem? hn))), hR _ _ rfl (Same.refl _)⟩⟩
    intro H3 s3 e3
    have eX : X.filterMap (fun q => some (V.ref q.1)) = xrefs X := by rw [List.filterMap_eq_map'] <;> rfl
    rw [eX] at e3
    refine ⟨D, _, rfl, .inl ⟨SqL.of e3, fun tr htr => ?_⟩⟩
    have s4 : Same H3 (upd H3 tr (.tup (xrefs X))) := Same.upd htr
    have et : (upd H3 tr (.tup (xrefs X))) tr = some (.tup (xrefs X)) := upd_same
    generalize upd H3 tr (.tup (xrefs X)) = H4 at s4 et ⊢
    have s24 := s2.trans (s3.trans s4)
    have hp4 := s24 _ _ hp
    have ntp : tr ≠ p := ne_of et hp4 (by intro z; cases z)
    refine ⟨_, rfl, p, _, dx, _, rfl, hp4, T.cO, T.Orows, (by show 0 < 1000; decide), ?_⟩
    have b5 : But p H (upd H4 p (.ins (He.ga K "Forest") dx (putF "rows" (.ref tr) []))) := (But.of s24).put
    have et5 : (upd H4 p (.ins (He.ga K "Forest") dx (putF "rows" (.ref tr) []))) tr = some (.tup (xrefs X)) := by rw [upd_ne ntp]; exact et
    have p5 : (upd H4 p (.ins (He.ga K "Forest") dx (putF "rows" (.ref tr) []))) p = some (.ins (He.ga K "Forest") dx [(("rows" : Str), V.ref tr)]) := upd_same
    generalize upd H4 p (.ins (He.ga K "Forest") dx (putF "rows" (.ref tr) [])) = H5 at b5 et5 p5 ⊢
    have ha5 := b5 _ _ ha npa
    have hX5 : XTups H5 X := fun q hq => b5 _ _ (hX q hq) (nq q hq)
    -- self.order
    refine ⟨_, rfl, a, rfl, ⟨_, SqL.of ha5⟩, fun D2 hD2 => ?_⟩
    refine lc_map X (fun q => some (V.str q.2.1)) (walk_map _ (fun q : Addr × Xr => V.ref q.1)) hD2 (small1830 (by omega)) (fun H6 s6 => SqL.of (s6 _ _ ha5)) ?_ ?_
    · rintro j n v H7 H6 Rr N hn s6 ⟨rfl, hx⟩ hR hN
      obtain rfl := map_at hn hx
      exact ⟨rfl, _, rfl, n.1, cells3 n.2, 0, _, rfl, rfl, SqT.of (s6 _ _ (hX5 n (List.mem_of_getElem? hn))), rfl, hR _ _ rfl (Same.refl _)⟩
    intro H6 s6 e6
    refine ⟨D2, _, rfl, .inl ⟨SqL.of e6, fun o ho => ?_⟩⟩
    have s7 := s6.trans (Same.upd (o := .tup (X.filterMap fun q => some (V.str q.2.1))) ho)
    generalize upd H6 o (.tup (X.filterMap fun q => some (V.str q.2.1))) = H7 at s7 ⊢
    refine ⟨_, rfl, p, _, dx, _, rfl, s7 _ _ p5, T.cO, T.Oorder, (by show 1 < 1000; decide), ?_⟩
    have b8 : But p H (upd H7 p (.ins (He.ga K "Forest") dx (putF "order" (.ref o) [(("rows" : Str), V.ref tr)]))) := (b5.same s7).put
    have et8 : (upd H7 p (.ins (He.ga K "Forest") dx (putF "order" (.ref o) [(("rows" : Str), V.ref tr)]))) tr = some (.tup (xrefs X)) := by rw [upd_ne ntp]; exact s7 _ _ et5
    have p8 : (upd H7 p (.ins (He.ga K "Forest") dx (putF "order" (.ref o) [(("rows" : Str), V.ref tr)]))) p = some (.ins (He.ga K "Forest") dx [(("rows" : Str), V.ref tr), (("order" : Str), V.ref o)]) := upd_same
    generalize upd H7 p (.ins (He.ga K "Forest") dx (putF "order" (.ref o) [(("rows" : Str), V.ref tr)])) = H8 at b8 et8 p8 ⊢
    have ha8 := b8 _ _ ha npa
    -- self.spots
    refine ⟨_, rfl, a, _, rfl, SqL.of ha8, fun D3 hD3 => ?_⟩
    refine dp_it (walk_enum (xs := xrefs X)) (fun i H' => Same H8 H' ∧ ∃ kvs : List (Key × V), H' D3 = some (.dK kvs) ∧ kvs.length ≤ i) ⟨Same.upd hD3, [], upd_same, Nat.le_refl _⟩ (fun i H' _ h => SqL.of (h.1 _ _ ha8)) ?_ ?_
    · rintro i x H9 H10 hi ⟨s9, kvs, e9, l9⟩ ⟨t2, _, _, rfl, ht2, rfl, hc, hx⟩
      cases hc
      rw [xrefs_len] at hi
      have hx : (xrefs X)[i]? = some _ := hx
      obtain ⟨q, hq, rfl⟩ : ∃ q, X[i]? = some q ∧ _ = V.ref q.1 := by
        unfold xrefs at hx
        rw [List.getElem?_map] at hx
        cases e : X[i]? with
        | none => rw [e] at hx; cases hx
        | some q => rw [e] at hx; exact ⟨q, rfl, (Option.some.inj hx).symm⟩
      have s10 : Same H9 (upd H9 t2 (.tup [.int (i : Nat), .ref q.1])) := Same.upd ht2
      have hrow := s10 _ _ (s9 _ _ (b8 _ _ (hX q (List.mem_of_getElem? hq)) (nq q (List.mem_of_getElem? hq))))
      refine ⟨t2, _, rfl, SqT.of upd_same, rfl, _, _, rfl, _, _, rfl, rfl, rfl, ?_⟩
      refine ⟨_, rfl, q.1, cells3 q.2, 0, _, rfl, rfl, SqT.of hrow, rfl, _, rfl, _, .inl ⟨kvs, Sum.inr q.2.1, s10 _ _ e9, rfl, small1830 (by omega), rfl⟩, fun b o eb => ?_, _, upd_same, Nat.le_trans (length_putK _ _ _) (by omega)⟩
      rw [upd_ne (ne_of_none eb hD3)]
      exact s10 _ _ (s9 _ _ eb)
    rintro H9 ⟨s9, kvs, e9, l9⟩
    refine ⟨_, rfl, p, _, dx, _, rfl, s9 _ _ p8, T.cO, T.Ospots, (by show 2 < 1000; decide), ?_⟩
    refine k _ ⟨dx, tr, o, D3, upd_same, by rw [upd_ne ntp]; exact s9 _ _ et8⟩ (b8.same s9).put
end
end KW
end

section
set_option Elab.async false
set_option linter.all false
set_option maxRecDepth 100000
set_option maxHeartbeats 4000000
/-! A table of pair rows: names, worth, line_to, forest. -/
namespace KW
open PySem PySem.Spec PyProof.Rows L2 KR
open FR (Ok Rows lineOf worthOf order forestOf)
theorem call_len_seqK {X : Cx} (K : PySem.W.Frag) (hK : X.K = K) : CallR X (.builtin "len") (fun xs H Q => ∃ p ys, xs = [.ref p] ∧ (SqL K H p ys ∨ SqT K H p ys) ∧ Q (.int ys.length) H) := hK ▸ call_len_seq
def LinesAt (H : Hp) (d : Addr) (rs : Rows Str) : Prop := ∃ kvs : List (Key × V), H d = some (.dK kvs) ∧ ∀ n ∈ rs.map (·.b), ∃ (a : Addr) (Ls : RL), valV kvs (Sum.inr n) = some (.ref a) ∧ H a = some (.lst (refs Ls)) ∧ Tups H Ls ∧ rws Ls = lineOf rs n
theorem LinesAt.same {H H' : Hp} {d : Addr} {rs : Rows Str} (h : LinesAt H d rs) (s : Same H H') : LinesAt H' d rs := by
  obtain ⟨kvs, e, f⟩ := h
  exact ⟨kvs, s _ _ e, fun n hn => let ⟨a, Ls, h1, h2, h3, h4⟩ := f n hn; ⟨a, Ls, h1, s _ _ h2, h3.same s, h4⟩⟩
def tF (tr bp dl o : Addr) : List (Str × V) := [(("rows" : Str), V.ref tr), (("by_pair" : Str), V.ref bp), (("lines" : Str), V.ref dl), (("order" : Str), V.ref o)]
def TableAt (K : PySem.W.Frag) (H : Hp) (p : Addr) (rs : Rows Str) : Prop := ∃ (dx tr bp dl o : Addr), H p = some (.ins (He.ga K "PairTable") dx (tF tr bp dl o)) ∧ LinesAt H dl rs ∧ H o = some (.tup ((order rs).map V.str))
theorem TableAt.same {K : PySem.W.Frag} {H H' : Hp} {p : Addr} {rs : Rows Str} (h : TableAt K H p rs) (s : Same H H') : TableAt K H' p rs := by
  obtain ⟨dx, tr, bp, dl, o, h1, h2, h3⟩ := h
  exact ⟨dx, tr, bp, dl, o, s _ _ h1, h2.same s, s _ _ h3⟩
theorem line_ne {rs : Rows Str} {n : Str} (h : n ∈ rs.map (·.b)) : lineOf rs n ≠ [] := by
  obtain ⟨r, hr, e⟩ := List.mem_map.mp h
  intro z
  have := FR.mem_lineOf.mpr ⟨hr, e⟩
  rw [z] at this
  cases this
section
variable {P : Program} {w : World} {K : PySem.W.Frag} {mg : Str → Option Value} {base : Heap}
def spPNames (K : PySem.W.Frag) : Sp := fun vs H Q _ => ∃ (p : Addr) (rs : Rows Str), vs = [.ref p] ∧ TableAt K H p rs ∧ ∀ l, H l = none → Q (.ref l) (upd H l (.lst ((order rs).map V.str)))
theorem ok_pnames (T : TX K mg) : DfX P w K mg base 1 dPNames ["self"] (spPNames K) := by
  refine df_mk T 41 rfl (N := ["self"]) ⟨rfl, rfl, rfl, by decide +kernel, rfl, by decide +kernel, by decide +kernel⟩ (fun _ _ _ _ _ _ us hl => match us, hl with | [_], _ => rfl) (fun vs H Q E h => ?_) (fun cdv A outer s H vs Q E hr h => ?_)
  · obtain ⟨p, rs, rfl, _⟩ := h
    rfl
  · obtain ⟨p, rs, rfl, ⟨dx, tr, bp, dl, o, h1, h2, h3⟩, k⟩ := h
    refine ⟨_, pss_one (ps_ret (pe_callTy call_list_of (by rfl) T.list boot_list (pa_cons (pe_fld (pv 0) rfl) pa_nil))), ?_⟩
    exact ⟨_, rfl, p, _, dx, _, _, rfl, h1, T.cT, T.Torder, rfl, o, _, rfl, .inr (SqT.of h3), fun l hl => k l hl⟩
def spPWorth (K : PySem.W.Frag) : Sp := fun vs H Q _ => ∃ (p : Addr) (n : Str) (rs : Rows Str), vs = [.ref p, .str n] ∧ TableAt K H p rs ∧ n ∈ rs.map (·.b) ∧ Q (.int (worthOf rs n)) H
theorem ok_pworth (T : TX K mg) : DfX P w K mg base 1 dPWorth ["self", "name"] (spPWorth K) := by
  refine df_mk T 42 rfl (N := ["self", "name"]) ⟨rfl, rfl, rfl, by decide +kernel, rfl, by decide +kernel, by decide +kernel⟩ (fun _ _ _ _ _ _ us hl => match us, hl with | [_, _], _ => rfl) (fun vs H Q E h => ?_) (fun cdv A outer s H vs Q E hr h => ?_)
  · obtain ⟨p, n, rs, rfl, _⟩ := h
    rfl
  · obtain ⟨p, n, rs, rfl, ⟨dx, tr, bp, dl, o, h1, ⟨kvs, e2, f2⟩, h3⟩, hn, k⟩ := h
    have hu := hu_of hr
    obtain ⟨a, Ls, g1, g2, g3, g4⟩ := f2 n hn
    refine ⟨_, pss_one (ps_ret (pe_ix ix_tup (pe_ix ix_list (pe_dget hu (pe_fld (pv 0) rfl) (pv 1) (fun _ _ => rfl)) (pe_un un_neg pe_int) (fun _ _ => rfl)) pe_int (fun _ _ => rfl))), ?_⟩
    have gd := DGet.k (k := Sum.inr n) e2
    rw [g1] at gd
    have hne : Ls ≠ [] := fun z => line_ne hn (by rw [← g4, z]; rfl)
    obtain ⟨init, q, rfl⟩ : ∃ init q, Ls = init ++ [q] := ⟨_, _, (List.dropLast_concat_getLast hne).symm⟩
    have hat : atI (refs (init ++ [q])) (-1) = some (.ref q.1) := by
      unfold refs
      rw [List.map_append]
      exact atI_last _ _
    have ew : worthOf rs n = q.2.v := by
      unfold worthOf
      rw [← g4]
      unfold rws
      rw [List.map_append]
      simp
    rw [ew] at k
    exact ⟨_, rfl, p, _, dx, _, _, rfl, h1, T.cT, T.Tlines, rfl, _, rfl, dl, _, rfl, gd, _, rfl, a, _, -1, _, rfl, rfl, SqL.of g2, hat, q.1, cells q.2, 4, _, rfl, rfl, SqT.of (g3 q (List.mem_append_right _ List.mem_cons_self)), rfl, k⟩
def spPLine (K : PySem.W.Frag) : Sp := fun vs H Q _ => ∃ (p : Addr) (n : Str) (rs : Rows Str), vs = [.ref p, .str n] ∧ TableAt K H p rs ∧ n ∈ rs.map (·.b) ∧ rs.length ≤ 60 ∧ ∀ l (xs : List V) H', H' l = some (.lst xs) → xs.length = (lineOf rs n).length - 1 → Same H H' → Q (.ref l) H'
theorem ok_pline (T : TX K mg) : DfX P w K mg base 1 dPLine ["self", "name"] (spPLine K) := by
  have nd : (["self", "name", "row"] : List Str).Nodup := by decide +kernel
  refine df_mk T 43 rfl (N := ["self", "name", "row"]) ⟨rfl, rfl, rfl, by decide +kernel, rfl, by decide +kernel, by decide +kernel⟩ (fun _ _ _ _ _ _ us hl => match us, hl with | [_, _], _ => rfl) (fun vs H Q E h => ?_) (fun cdv A outer s H vs Q E hr h => ?_)
  · obtain ⟨p, n, rs, rfl, _⟩ := h
    rfl
  · obtain ⟨p, n, rs, rfl, ⟨dx, tr, bp, dl, o, h1, ⟨kvs, e2, f2⟩, h3⟩, hn, hl60, k⟩ := h
    have hu := hu_of hr
    obtain ⟨a, Ls, g1, g2, g3, g4⟩ := f2 n hn
    have gd := DGet.k (k := Sum.inr n) e2
    rw [g1] at gd
    refine ⟨_, pss_one (ps_ret (pe_lc (own := [("row", 2)]) (g := gName 2) (tt := tYes) rfl nd (pi_list (pe_slice sl_list (pe_dget hu (pe_fld (pv 0) rfl) (pv 1) (fun _ _ => rfl)) po_none (po_some (pe_un un_neg pe_int)))) (blkOk_by (N := ["self", "name", "row"]) (sc := dPLine.scope) (by decide +kernel))
      (fun _ _ _ _ _ => pg_name (i := 2) nd rfl (Or.inl rfl)) (fun _ _ _ _ _ => pts_nil) (fun _ _ _ _ _ => pe_ix (ix_tupK K rfl) (pv 2) pe_int (fun _ _ => rfl)))), ?_⟩
    refine ⟨_, rfl, p, _, dx, _, _, rfl, h1, T.cT, T.Tlines, rfl, _, rfl, dl, _, rfl, gd, _, rfl, _, rfl, a, _, rfl, SqL.of g2, fun c hc => ?_⟩
    have lLs : Ls.length = (lineOf rs n).length := by rw [← g4, rws_len]
    have lb : (lineOf rs n).length ≤ 60 := by
      rw [(FR.lineOf_perm rs n).length_eq]
      exact Nat.le_trans (List.length_filter_le _ _) hl60
    have eCut : cutV (refs Ls) none (some (-1)) = refs (Ls.take (Ls.length - 1)) := by
      unfold cutV
      rw [HT.sIx_none, List.drop_zero, Nat.sub_zero, ← refs_take]
      congr 1
      show (if (-1 : Int) < 0 then ((-1 : Int) + ((refs Ls).length : Int)).toNat else min (-1 : Int).toNat (refs Ls).length) = Ls.length - 1
      rw [if_pos (by decide), refs_len]
      omega
    have s1 : Same H (upd H c (.lst (cutV (refs Ls) none (some (-1))))) := Same.upd hc
    have ec : (upd H c (.lst (cutV (refs Ls) none (some (-1))))) c = some (.lst (refs (Ls.take (Ls.length - 1)))) := by rw [upd_same, eCut]
    generalize upd H c (.lst (cutV (refs Ls) none (some (-1)))) = H1 at s1 ec ⊢
    refine ⟨c, rfl, ⟨_, SqL.of ec⟩, fun D hD => ?_⟩
    refine lc_map (Ls.take (Ls.length - 1)) (fun q => some (V.str q.2.a)) (walk_map _ (fun q : Addr × Rw => V.ref q.1)) hD (by rw [List.length_take]; exact small1830 (by omega)) (fun H6 s6 => SqL.of (s6 _ _ ec)) ?_ ?_
    · rintro j n' v H7 H6 Rr N hn' s6 ⟨rfl, hx⟩ hR hN
      obtain rfl := map_at hn' hx
      exact ⟨rfl, _, rfl, n'.1, cells n'.2, 0, _, rfl, rfl, SqT.of (s6 _ _ (s1 _ _ (g3 n' (List.mem_of_mem_take (List.mem_of_getElem? hn'))))), rfl, hR _ _ rfl (Same.refl _)⟩
    intro H6 s6 e6
    refine k D _ H6 e6 ?_ (s1.trans s6)
    rw [List.filterMap_eq_map', List.length_map, List.length_take, lLs]
    omega
def spForest (K : PySem.W.Frag) : Sp := fun vs H Q _ => ∃ (p : Addr) (rs : Rows Str), vs = [.ref p] ∧ TableAt K H p rs ∧ rs.length ≤ 60 ∧ FNm (forestOf rs) ∧ ∀ x (X : XL) H', ForestAt K H' x X → XTups H' X → xrs X = forestOf rs → Same H H' → Q (.ref x) H'
theorem ok_forest (T : TX K mg) : DfX P w K mg base 6 dForest ["self"] (spForest K) := by
  obtain ⟨fdN, GN⟩ := ok_pnames (P := P) (w := w) (base := base) T
  obtain ⟨fdW, GW⟩ := ok_pworth (P := P) (w := w) (base := base) T
  obtain ⟨fdL, GL⟩ := ok_pline (P := P) (w := w) (base := base) T
  obtain ⟨fdO, GO⟩ := ok_oinit (P := P) (w := w) (base := base) T
  have nd : (["self", "name"] : List Str).Nodup := by decide +kernel
  refine df_mk T 38 rfl (N := ["self", "name"]) ⟨rfl, rfl, rfl, by decide +kernel, rfl, by decide +kernel, by decide +kernel⟩ (fun _ _ _ _ _ _ us hl => match us, hl with | [_], _ => rfl) (fun vs H Q E h => ?_) (fun cdv A outer s H vs Q E hr h => ?_)
  · obtain ⟨p, rs, rfl, _⟩ := h
    rfl
  · obtain ⟨p, rs, rfl, hT, hl60, F, k⟩ := h
    have hr1 := hr.mono (j := 1) (by decide)
    obtain ⟨dx, tr, bp, dl, o, h1, h2, h3⟩ := id hT
    refine ⟨_, pss_one (ps_ret (pe_make T.kO GO.ok hr rfl (T.gl 3 _ rfl) GO.b .nil pass0 (pa_cons (pe_lc (own := [("name", 1)]) (g := gName 1) (tt := tYes) rfl nd (pi_list (pe_meth0 (pv 0) T.cT T.mTnames GN.ok hr1 GN.b .nil pass0)) (blkOk_by (N := ["self", "name"]) (sc := dForest.scope) (by decide +kernel))
      (fun _ _ _ _ _ => pg_name (i := 1) nd rfl (Or.inl rfl)) (fun _ _ _ _ _ => pts_nil)
      (fun _ _ _ _ _ => pe_tup (pa_cons (pv 1) (pa_cons (pe_meth (pv 0) T.cT T.mTworth GW.ok hr1 GW.b .nil pass0 (pa_cons (pv 1) pa_nil)) (pa_cons (pe_callB (call_len_seqK K rfl) (by rfl) T.len PySem.boot_len (pa_cons (pe_meth (pv 0) T.cT T.mTline GL.ok hr1 GL.b .nil pass0 (pa_cons (pv 1) pa_nil)) pa_nil)) pa_nil))))) pa_nil))), ?_⟩
    refine ⟨_, rfl, p, dx, _, rfl, h1, rfl, p, rs, rfl, hT, fun l hl => ?_⟩
    have s1 : Same H (upd H l (.lst ((order rs).map V.str))) := Same.upd hl
    have el : (upd H l (.lst ((order rs).map V.str))) l = some (.lst ((order rs).map V.str)) := upd_same
    generalize upd H l (.lst ((order rs).map V.str)) = H1 at s1 el ⊢
    have hlen : (order rs).length ≤ 60 := by
      have := F.f.len
      unfold forestOf at this
      rw [List.length_map] at this
      exact this
    refine ⟨l, rfl, ⟨_, SqL.of el⟩, fun D hD => ?_⟩
    refine lc_it (walk_map (K := K) (a := l) (order rs) V.str) (fun i H' => Same H1 H' ∧ ∃ X : XL, H' D = some (.lst (xrefs X)) ∧ XTups H' X ∧ xrs X = (forestOf rs).take i) ⟨Same.upd hD, [], upd_same, (fun q hq => absurd hq (by simp)), rfl⟩ (fun i H' _ h => SqL.of (h.1 _ _ el)) ?_ ?_
    · rintro i x H2 H3 hi ⟨s2, X, eD, tX, eX⟩ ⟨rfl, hx⟩
      obtain ⟨n, hn⟩ : ∃ n, (order rs)[i]? = some n := ⟨_, List.getElem?_eq_getElem hi⟩
      obtain rfl := map_at hn hx
      have hnb : n ∈ rs.map (·.b) := FR.mem_order.mp (List.mem_of_getElem? hn)
      have hT3 := (hT.same s1).same s2
      have h13 := s2 _ _ (s1 _ _ h1)
      refine ⟨rfl, _, rfl, _, rfl, p, dx, _, rfl, h13, rfl, _, rfl, p, n, rs, rfl, hT3, hnb, ?_⟩
      refine ⟨_, rfl, p, dx, _, rfl, h13, rfl, _, rfl, p, n, rs, rfl, hT3, hnb, hl60, fun ll xs H4 ell lx s4 => ?_⟩
      refine ⟨ll, _, rfl, .inl (SqL.of ell), (by show 3 ≤ sizeLine; decide), fun u hu => ?_⟩
      rw [lx]
      have s5 : Same H4 (upd H4 u (.tup [.str n, .int (worthOf rs n), .int (((lineOf rs n).length - 1 : Nat) : Int)])) := Same.upd hu
      have eu : (upd H4 u (.tup [.str n, .int (worthOf rs n), .int (((lineOf rs n).length - 1 : Nat) : Int)])) u = some (.tup (cells3 (n, worthOf rs n, (lineOf rs n).length - 1))) := upd_same
      generalize upd H4 u (.tup [.str n, .int (worthOf rs n), .int (((lineOf rs n).length - 1 : Nat) : Int)]) = H5 at s5 eu ⊢
      have s35 := s4.trans s5
      have eD5 := s35 _ _ eD
      have neD : ∀ (q : Addr) (xs : List V), H5 q = some (.tup xs) → q ≠ D := fun q xs e => ne_of e eD5 (by intro z; cases z)
      have lX : X.length ≤ i := by
        have := congrArg List.length eX
        rw [xrs_len, List.length_take] at this
        omega
      have hfi : (forestOf rs)[i]? = some (n, worthOf rs n, (lineOf rs n).length - 1) := by
        unfold forestOf
        rw [List.getElem?_map, hn]
        rfl
      refine ⟨_, eD5, by rw [xrefs_len]; exact small1830 (by omega), fun b o e => ?_, X ++ [(u, (n, worthOf rs n, (lineOf rs n).length - 1))], ?_, ?_, ?_⟩
      · rw [upd_ne (ne_of_none e hD)]
        exact s35 _ _ (s2 _ _ e)
      · rw [upd_same]
        simp [xrefs]
      · intro y hy
        rcases List.mem_append.mp hy with e | e
        · have e2 := s35 _ _ (tX y e)
          rw [upd_ne (neD _ _ e2)]
          exact e2
        · rw [List.mem_singleton.mp e, upd_ne (neD _ _ eu)]
          exact eu
      · rw [FR.take_snoc hfi, ← eX]
        simp [xrs]
    rintro H2 ⟨s2, X, eD, tX, eX⟩
    have hfl : (forestOf rs).length = (order rs).length := List.length_map _
    rw [← hfl, List.take_length] at eX
    intro x dx' nx ndx nex
    have sm : Same H2 (upd (upd H2 dx' (.own x)) x (.ins (He.ga K "Forest") dx' [])) := fun b o e => by rw [upd_ne (ne_of_none e nx), upd_ne (ne_of_none e ndx)]; exact e
    refine ⟨x, dx', D, X, rfl, upd_same, sm _ _ eD, (fun q hq => sm _ _ (tX q hq)), by rw [eX]; exact F, fun H3 F3 b3 => ⟨rfl, ?_⟩⟩
    have s3 := Same.made nx ndx b3
    exact k x X H3 F3 (fun q hq => s3 _ _ (tX q hq)) eX ((s1.trans s2).trans s3)
end
end KW
end

section
set_option Elab.async false
set_option linter.all false
set_option maxRecDepth 100000
set_option maxHeartbeats 4000000
/-! PairTable.put_rows. -/
namespace KW
open PySem PySem.Spec PyProof.Rows L2 KR
open FR (Ok Rows lineOf worthOf order forestOf)
def cPut (K : PySem.W.Frag) : Addr := He.codeOf K dPPut.at_
def pPut (K : PySem.W.Frag) : Addr := He.tabOf K (cPut K)
def qLam : Str := "PairTable.put_rows.<locals>.<lambda>"
def TPut (K : PySem.W.Frag) : List (Addr × Str) := [(pPut K, qLam)]
theorem hfree_by {sc scope : Scope} (h : (scope.names.all fun y => !decide (y.2 = .free) || decide (sc.names.lookup y.1 = some .cell) || decide (sc.names.lookup y.1 = some .free)) = true) : ∀ y ∈ scope.names, y.2 = .free → sc.names.lookup y.1 = some .cell ∨ sc.names.lookup y.1 = some .free := by
  intro y hy e
  have := List.all_eq_true.mp h y hy
  simp only [Bool.or_eq_true, Bool.not_eq_true', decide_eq_true_eq, decide_eq_false_iff_not] at this
  rcases this with (z | z) | z
  · exact absurd e z
  · exact .inl z
  · exact .inr z
/-- the address under a key -/
def atK (kvs : List (Key × V)) (n : Str) : Addr := match valV kvs (Sum.inr n) with
  | some (.ref z) => z
  | _ => 0
theorem atK_of {kvs : List (Key × V)} {n : Str} {z : Addr} (h : valV kvs (Sum.inr n) = some (.ref z)) : atK kvs n = z := by
  unfold atK
  rw [h]
theorem keys_put {kvs : List (Key × V)} {ns : List Str} (h : kvs.map (·.1) = (FR.keysOf ns).map Sum.inr) (x : Str) (v : V) : (putK kvs (Sum.inr x) v).map (·.1) = (FR.keysOf (ns ++ [x])).map Sum.inr := by
  rw [FR.keysOf_snoc]
  by_cases hx : x ∈ FR.keysOf ns
  · rw [if_pos hx, ← h]
    have hs : (valV kvs (Sum.inr x : Key)).isSome = true := by
      cases e : valV kvs (Sum.inr x : Key) with
      | some y => rfl
      | none => exact absurd (by rw [h]; exact List.mem_map.mpr ⟨x, hx, rfl⟩) (valV_not e)
    unfold putK
    rw [valV_any, hs]
    simp only [if_true, List.map_map]
    apply List.map_congr_left
    intro q _
    show (if q.1 = Sum.inr x then (q.1, v) else q).1 = q.1
    split <;> rfl
  · rw [if_neg hx]
    have hn : valV kvs (Sum.inr x : Key) = none := by
      cases e : valV kvs (Sum.inr x : Key) with
      | none => rfl
      | some y =>
        have := valV_in e
        rw [h] at this
        obtain ⟨z, hz, ez⟩ := List.mem_map.mp this
        exact absurd (Sum.inr.inj ez ▸ hz) hx
    rw [putK_new v hn, List.map_append, h, List.map_append]
    rfl
theorem valV_nodup {κ : Type} [DecidableEq κ] : ∀ {kvs : List (κ × V)} {i : Nat} {kv : κ × V}, (kvs.map (·.1)).Nodup → kvs[i]? = some kv → valV kvs kv.1 = some kv.2
  | [], i, kv, _, h => by cases h
  | p :: t, 0, kv, _, h => by
    cases h
    exact valV_pos rfl
  | p :: t, i + 1, kv, hn, h => by
    have hn2 := List.nodup_cons.mp hn
    have hm : kv ∈ t := List.mem_of_getElem? h
    have hne : ¬ p.1 = kv.1 := fun e => hn2.1 (by show p.1 ∈ t.map (·.1); rw [e]; exact List.mem_map.mpr ⟨kv, hm, rfl⟩)
    rw [valV_neg hne]
    exact valV_nodup hn2.2 h
theorem take_ofL {α : Type} {l : List α} {i : Nat} {q : α} (h : q ∈ l.take i) : ∃ j, j < i ∧ l[j]? = some q := by
  obtain ⟨j, hj⟩ := List.mem_iff_getElem?.mp h
  have hjl : j < (l.take i).length := (List.getElem?_eq_some_iff.mp hj).1
  have hji : j < i := by rw [List.length_take] at hjl; omega
  rw [List.getElem?_take_of_lt hji] at hj
  exact ⟨j, hji, hj⟩
theorem tabs_but {T : List (Addr × Str)} {H H' : Hp} {p : Addr} {o : HO} (t : LamX.Tabs T H) (ho : H p = some o) (h1 : ∀ ps, o ≠ .tbl ps) (h2 : ∀ c q, o ≠ LamX.CodeO c q) (b : But p H H') : LamX.Tabs T H' := fun q hq => by
  obtain ⟨ps, e1, e2, e3⟩ := t q hq
  refine ⟨ps, b _ _ e1 (fun z => by rw [z, ho] at e1; exact h1 ps (Option.some.inj e1)), e2, fun pos cv hc => ?_⟩
  obtain ⟨c, e4, e5⟩ := e3 pos cv hc
  exact ⟨c, e4, b _ _ e5 (fun z => by rw [z, ho] at e5; exact h2 _ _ (Option.some.inj e5))⟩
theorem codeO_ne2 {c : Addr} {q : Str} {o : HO} (h : ∀ φ, o ≠ .ext φ) : o ≠ LamX.CodeO c q := fun z => by
  unfold LamX.CodeO at z
  exact h _ z
theorem alike_ints : ∀ xs ys : List Int, PySem.W.alikeAll (xs.map .int) (ys.map .int) = true
  | [], _ => by simp [PySem.W.alikeAll]
  | _ :: _, [] => by simp [PySem.W.alikeAll]
  | x :: xs, y :: ys => by
    simp only [List.map_cons, PySem.W.alikeAll, PySem.W.alike, Bool.true_and]
    exact alike_ints xs ys
theorem depth_ints (xs : List Int) : (PyData.list (xs.map .int)).depth ≤ 60 := by
  have h2 := depth_all 0 (xs.map PyData.int) fun d hd => by
    obtain ⟨y, _, rfl⟩ := List.mem_map.mp hd
    simp [PyData.depth]
  simp only [PyData.depth]
  omega
/-- rows by what is sorted: a whole number each -/
def klI (M : RL) : KL := M.map fun q => (V.ref q.1, V.int (0 - q.2.s), PyData.int (0 - q.2.s))
def sortI (M : RL) : RL := M.mergeSort (PySem.W.dataLe false fun q => PyData.int (0 - q.2.s))
theorem klI_refs (M : RL) : (klI M).map (·.1) = refs M := by unfold klI refs; rw [List.map_map]; rfl
theorem klI_sort (M : RL) : ((klI M).mergeSort (PySem.W.dataLe false (·.2.2))).map (·.1) = refs (sortI M) := by
  unfold sortI refs klI
  rw [← List.map_mergeSort (r := PySem.W.dataLe false fun q : Addr × Rw => PyData.int (0 - q.2.s)) (s := PySem.W.dataLe false (·.2.2)) (f := fun q : Addr × Rw => (V.ref q.1, V.int (0 - q.2.s), PyData.int (0 - q.2.s))) fun a _ b _ => rfl, List.map_map]
  rfl
theorem sortI_rws (L : RL) (n : Str) : rws (sortI (L.filter fun q => decide (q.2.b = n))) = lineOf (rws L) n := by
  unfold rws sortI lineOf
  rw [PySem.W.dataLe_int, List.filter_map]
  exact List.map_mergeSort fun a _ b _ => rfl
theorem sortI_mem {M : RL} {q : Addr × Rw} : q ∈ sortI M ↔ q ∈ M := (List.mergeSort_perm M _).mem_iff
/-- what stood stays, but for tables -/
def ButN (p : Addr) (H H' : Hp) : Prop := ∀ b o, H b = some o → b ≠ p → (∀ ps, o ≠ .tbl ps) → H' b = some o
section
variable {P : Program} {w : World} {K : PySem.W.Frag} {mg : Str → Option Value} {base : Heap}
def spPut (K : PySem.W.Frag) : Sp := fun vs H Q _ => ∃ (p dx a : Addr) (L : RL), vs = [.ref p, .ref a] ∧ H p = some (.ins (He.ga K "PairTable") dx []) ∧ H a = some (.lst (refs L)) ∧ Tups H L ∧ L.length ≤ 60 ∧ LamX.Tabs (TPut K) H ∧
  ∀ H', TableAt K H' p (rws L) → ButN p H H' → LamX.Tabs (TPut K) H' → Q .non H'
abbrev scB1 : Scope := { kind := .function, names := [(".0", .local), ("name", .local), ("some", .local), ("sorted", .globalImplicit)], isGenerator := false, isCoroutine := false }
abbrev scB : Scope := { kind := .function, names := [(".0", .local), ("name", .local), ("some", .local)], isGenerator := false, isCoroutine := false }
abbrev NPu : List Str := ["self", "rows", "row", "lines", "ranks", "name", "some"]
theorem ndPu : NPu.Nodup := by decide +kernel
theorem ok_put (T : TX K mg) (TB : LamX.TabB base mg (cPut K) (pPut K)) : DfX P w K mg base 4 dPPut ["self", "rows"] (spPut K) := by
  obtain ⟨fd, F⟩ := T.fn 40 dPPut rfl
  refine ⟨fd, F.bindsN (fun _ _ _ _ _ _ us hl => match us, hl with | [_, _], _ => rfl), F.kp, ?_⟩
  obtain ⟨oc, od, dV, kVv, doc, pm, an, cdv, ct, osl, rfl, lk, hcd, _, _⟩ := F.ex
  obtain ⟨c, rfl⟩ := He.codeIn_ref hcd
  have hc : cPut K = c := He.codeOf_eq lk rfl
  refine fn_of lk hcd (N := NPu) ⟨rfl, rfl, rfl, by decide +kernel, rfl, by decide +kernel, by decide +kernel⟩ (fun vs H Q E h => ?_) fun A outer s H vs Q E hr h => ?_
  · obtain ⟨p, dx, a, L, rfl, _⟩ := h
    rfl
  · obtain ⟨p, dx, a, L, rfl, hp, ha, hT, hl, hTb, k⟩ := h
    have hu := hu_of hr
    have hmT : ∀ q ∈ TPut K, q.1 = pPut K → q.2 = qLam := fun q hq _ => by rw [List.mem_singleton.mp hq]
    rw [← hc] at *
    refine ⟨_, PSs.nox (pss_cons (ps_fld (pv 0) (pe_callTy call_tuple_of (by rfl) T.tuple boot_tuple (pa_cons (pv 1) pa_nil)) rfl)
      (pss_cons (ps_fld (pv 0) (pe_dpx (own := [("row", 2)]) (O := .dT []) (g := gName 2) (tk := tTup (tCons (tOp (rIxT K) (tVar 2) (tC (.int 0))) (tCons (tOp (rIxT K) (tVar 2) (tC (.int 1))) tNil))) (.inr rfl) hu rfl ndPu (pi_list (pv 1)) (blkOk_by (N := NPu) (sc := dPPut.scope) (by decide +kernel))
          (fun _ _ _ _ _ => pg_name (i := 2) ndPu rfl (Or.inl rfl)) (fun _ _ _ _ _ => pts_nil) (fun _ _ _ _ _ => pe_tup (pa_cons (pe_ix (ix_tupK K rfl) (pv 2) pe_int (fun _ _ => rfl)) (pa_cons (pe_ix (ix_tupK K rfl) (pv 2) pe_int (fun _ _ => rfl)) pa_nil))) (fun _ _ _ _ _ => pv 2)) rfl)
      (pss_cons (ps_setDpx (i := 3) (own := [("row", 2)]) (O := .dK []) (g := gName 2) (tk := tOp (rIxT K) (tVar 2) (tC (.int 1))) (.inl rfl) hu rfl ndPu rfl rfl (swd_true rfl rfl rfl (by decide +kernel)) (pi_list (pv 1)) (blkOk_by (N := NPu) (sc := dPPut.scope) (by decide +kernel))
          (fun _ _ _ _ _ => pg_name (i := 2) ndPu rfl (Or.inl rfl)) (fun _ _ _ _ _ => pts_nil) (fun _ _ _ _ _ => pe_ix (ix_tupK K rfl) (pv 2) pe_int (fun _ _ => rfl)) (fun _ _ _ _ _ => pe_lst pa_nil))
      (pss_cons (ps_for PassesOwn.never rfl (pi_list (pv 1)) (pg_name (i := 2) ndPu rfl (Or.inl rfl))
        (pss_one (ps_expr (pe_bm PySem.F.plainAttrs_list PySem.F.slot_list_append PySem.F.type_list_append mt_append (pe_dget hu (pv 3) (pe_ix ix_tup (pv 2) pe_int (fun _ _ => rfl)) (fun _ _ => rfl)) (pa_cons (pv 2) pa_nil)))))
      (pss_cons (ps_fld (pv 0) (pe_lock (pe_dpx (own := [("name", 5), ("some", 6)]) (O := .dK []) (g := gTup K 2 (gCons (gName 5) (gCons (gName 6) gNil))) (tv := tSL K (TPut K) ["row"] [] (tVar 6) (tOp (rI0 fun i j => V.int (i - j)) (tC (.int 0)) (tOp (rIxT K) (tVar 0) (tC (.int 2))))) (.inl rfl) hu rfl ndPu (pi_items (pv 3)) (blkOk_by (N := NPu) (sc := dPPut.scope) (by decide +kernel))
          (fun _ _ _ _ _ => pg_tup rfl (pgs_cons (pg_name (i := 5) ndPu rfl (Or.inl rfl)) (pgs_cons (pg_name (i := 6) ndPu rfl (Or.inl rfl)) pgs_nil))) (fun _ _ _ _ _ => pts_nil) (fun _ _ _ _ _ => pv 5)
          (fun _ _ _ _ _ => pe_sortLam (T := TPut K) (N := ["row"]) (ps := ["row"]) (fr := []) (js := []) (c := cPut K) (P := pPut K) rfl T.sorted (pv 6) TB rfl (List.mem_singleton.mpr rfl) hmT rfl (NdefX.nscope_by (by decide +kernel)) (fun y hy e => hfree_by (sc := scB1) (by decide +kernel) y hy e) (fun y hy => by cases hy) rfl hr rfl (fun _ _ _ us hl => match us, hl with | [_], _ => rfl)
            (fun _ _ _ _ => pe_op op_sub pe_int (pe_ix (ix_tupK K rfl) (pv 0) pe_int (fun _ _ => rfl)))))) rfl)
      (pss_cons (ps_set (i := 4) ndPu rfl (Or.inr rfl) (pe_lock (pe_dpx (own := [("name", 5), ("some", 6)]) (O := .dK []) (g := gTup K 2 (gCons (gName 5) (gCons (gName 6) gNil))) (tv := tLc (iList K (tVar 6)) (gName 2) tYes (tOp (rIxT K) (tVar 2) (tC (.int 3))) [2]) (.inl rfl) hu rfl ndPu (pi_items (pe_fld (pv 0) rfl)) (blkOk_by (N := NPu) (sc := dPPut.scope) (by decide +kernel))
          (fun _ _ _ _ _ => pg_tup rfl (pgs_cons (pg_name (i := 5) ndPu rfl (Or.inl rfl)) (pgs_cons (pg_name (i := 6) ndPu rfl (Or.inl rfl)) pgs_nil))) (fun _ _ _ _ _ => pts_nil) (fun _ _ _ _ _ => pv 5)
          (fun _ _ _ _ _ => pe_lc (own := [("row", 2)]) (g := gName 2) rfl ndPu (pi_list (pv 6)) (blkOk_by (N := NPu) (sc := scB) (own := [("row", 2)]) (by decide +kernel)) (fun _ _ _ _ _ => pg_name (i := 2) ndPu rfl (Or.inl rfl)) (fun _ _ _ _ _ => pts_nil) (fun _ _ _ _ _ => pe_ix (ix_tupK K rfl) (pv 2) pe_int (fun _ _ => rfl))))))
      (pss_one (ps_fld (pv 0) (pe_callTy call_tuple_of (by rfl) T.tuple boot_tuple (pa_cons (pe_sortLam (T := TPut K) (N := ["name", "ranks"]) (ps := ["name"]) (fr := ["ranks"]) (js := [4]) (c := cPut K) (P := pPut K) rfl T.sorted (pe_callTy (call_list_dK rfl) (by rfl) T.list boot_list (pa_cons (pv 4) pa_nil)) TB rfl (List.mem_singleton.mpr rfl) hmT rfl (NdefX.nscope_by (by decide +kernel)) (fun y hy e => hfree_by (sc := dPPut.scope) (by decide +kernel) y hy e) (by decide +kernel) rfl hr rfl (fun _ _ _ us hl => match us, hl with | [_], _ => rfl)
            (fun _ _ _ _ => pe_dget (hu_of ((hr.in1.in1 : Room 1 _).deeper _)) (pv 1) (pv 0) (fun _ _ => rfl))) pa_nil)) rfl)))))))), ?_⟩
    have npa : a ≠ p := ne_of ha hp (by intro z; cases z)
    have nq : ∀ q ∈ L, q.1 ≠ p := fun q hq => ne_of (hT q hq) hp (by intro z; cases z)
    have rat : ∀ {i : Nat} {q : Addr × Rw}, L[i]? = some q → (rws L)[i]? = some q.2 := fun h => by unfold rws; rw [List.getElem?_map, h]; rfl
    -- self.rows
    refine ⟨_, rfl, a, _, rfl, .inl ⟨SqL.of ha, fun tr htr => ?_⟩⟩
    have s1 : Same H (upd H tr (.tup (refs L))) := Same.upd htr
    refine ⟨_, rfl, p, _, dx, _, rfl, s1 _ _ hp, T.cT, T.Trows, (by show 0 < 1000; decide), ?_⟩
    have b2 : But p H (upd (upd H tr (.tup (refs L))) p (.ins (He.ga K "PairTable") dx (putF "rows" (.ref tr) []))) := (But.of s1).put
    have p2 : (upd (upd H tr (.tup (refs L))) p (.ins (He.ga K "PairTable") dx (putF "rows" (.ref tr) []))) p = some (.ins (He.ga K "PairTable") dx [(("rows" : Str), V.ref tr)]) := upd_same
    generalize upd (upd H tr (.tup (refs L))) p (.ins (He.ga K "PairTable") dx (putF "rows" (.ref tr) [])) = H2 at b2 p2 ⊢
    have ha2 := b2 _ _ ha npa
    have hT2 : Tups H2 L := hT.but b2 nq
    -- self.by_pair
    refine ⟨_, rfl, a, rfl, ⟨_, SqL.of ha2⟩, fun D1 hD1 => ?_⟩
    refine dp_it (walk_map (K := K) (a := a) L (fun q : Addr × Rw => V.ref q.1)) (fun i H' => Same H2 H' ∧ ∃ kvs : List (List Key × V), H' D1 = some (.dT kvs) ∧ kvs.length ≤ i) ⟨Same.upd hD1, [], upd_same, Nat.le_refl _⟩ (fun i H' _ h => SqL.of (h.1 _ _ ha2)) ?_ ?_
    · rintro i x H3 H4 hi ⟨s3, kvs, e3, l3⟩ ⟨rfl, hx⟩
      obtain ⟨q, hqi⟩ : ∃ q, L[i]? = some q := ⟨_, List.getElem?_eq_getElem hi⟩
      obtain rfl := map_at hqi hx
      have hrow := s3 _ _ (hT2 q (List.mem_of_getElem? hqi))
      refine ⟨rfl, _, rfl, q.1, cells q.2, 0, _, rfl, rfl, SqT.of hrow, rfl, _, rfl, q.1, cells q.2, 1, _, rfl, rfl, SqT.of hrow, rfl, (by show 2 ≤ sizeLine; decide), fun t ht => ⟨_, rfl, ?_⟩⟩
      have sT : Same H4 (upd H4 t (.tup [.str q.2.a, .str q.2.b])) := Same.upd ht
      refine ⟨_, .inr ⟨kvs, [Sum.inr q.2.a, Sum.inr q.2.b], t, sT _ _ e3, rfl, upd_same, small1830 (by omega), rfl⟩, fun b o eb => ?_, _, upd_same, Nat.le_trans (length_putK _ _ _) (by omega)⟩
      rw [upd_ne (ne_of_none eb hD1)]
      exact sT _ _ (s3 _ _ eb)
    rintro H3 ⟨s3, _⟩
    refine ⟨_, rfl, p, _, dx, _, rfl, s3 _ _ p2, T.cT, T.Tby, (by show 1 < 1000; decide), ?_⟩
    have b4 : But p H (upd H3 p (.ins (He.ga K "PairTable") dx (putF "by_pair" (.ref D1) [(("rows" : Str), V.ref tr)]))) := (b2.same s3).put
    have p4 : (upd H3 p (.ins (He.ga K "PairTable") dx (putF "by_pair" (.ref D1) [(("rows" : Str), V.ref tr)]))) p = some (.ins (He.ga K "PairTable") dx [(("rows" : Str), V.ref tr), (("by_pair" : Str), V.ref D1)]) := upd_same
    generalize upd H3 p (.ins (He.ga K "PairTable") dx (putF "by_pair" (.ref D1) [(("rows" : Str), V.ref tr)])) = H4 at b4 p4 ⊢
    have ha4 := b4 _ _ ha npa
    have hT4 : Tups H4 L := hT.but b4 nq
    -- lines
    refine ⟨_, rfl, a, rfl, ⟨_, SqL.of ha4⟩, fun dL hdL => ?_⟩
    refine dp_it (walk_map (K := K) (a := a) L (fun q : Addr × Rw => V.ref q.1)) (fun i H' => Same H4 H' ∧ ∃ kvs : List (Key × V), H' dL = some (.dK kvs) ∧ kvs.length ≤ i ∧ kvs.map (·.1) = (FR.keysOf (((rws L).take i).map (·.b))).map Sum.inr ∧
        (∀ n ∈ FR.keysOf (((rws L).take i).map (·.b)), ∃ z : Addr, valV kvs (Sum.inr n) = some (.ref z) ∧ H4 z = none ∧ H' z = some (.lst [])) ∧ ∀ (n m : Str) (z : Addr), valV kvs (Sum.inr n) = some (.ref z) → valV kvs (Sum.inr m) = some (.ref z) → n = m)
      ⟨Same.upd hdL, [], upd_same, Nat.le_refl _, rfl, (fun n hn => by cases hn), (fun n m z h => by cases h)⟩ (fun i H' _ h => SqL.of (h.1 _ _ ha4)) ?_ ?_
    · rintro i x H5 H6 hi ⟨s5, kvs, e5, l5, k5, v5, j5⟩ ⟨rfl, hx⟩
      obtain ⟨q, hqi⟩ : ∃ q, L[i]? = some q := ⟨_, List.getElem?_eq_getElem hi⟩
      obtain rfl := map_at hqi hx
      have hrow := s5 _ _ (hT4 q (List.mem_of_getElem? hqi))
      refine ⟨rfl, _, rfl, q.1, cells q.2, 1, _, rfl, rfl, SqT.of hrow, rfl, (by show 0 ≤ sizeLine; decide), fun z hz => ?_⟩
      have sZ : Same H6 (upd H6 z (.lst [])) := Same.upd hz
      have ez : (upd H6 z (.lst [])) z = some (.lst []) := upd_same
      have hz6 := hz
      generalize upd H6 z (.lst []) = H7 at sZ ez ⊢
      have e7 := sZ _ _ e5
      have ndz : z ≠ dL := ne_of ez e7 (by intro y; cases y)
      have hzn : ∀ (n : Str) (c : Addr), valV kvs (Sum.inr n) = some (.ref c) → n ∈ FR.keysOf (((rws L).take i).map (·.b)) → c ≠ z := fun n c h1 h2 => by
        obtain ⟨c', e1, _, e3⟩ := v5 n h2
        rw [h1] at e1
        cases e1
        exact ne_of_none e3 hz6
      have hin : ∀ (n : Str) (y : V), valV kvs (Sum.inr n) = some y → n ∈ FR.keysOf (((rws L).take i).map (·.b)) := fun n y h => by
        have := valV_in h
        rw [k5] at this
        obtain ⟨m, hm, em⟩ := List.mem_map.mp this
        exact Sum.inr.inj em ▸ hm
      have etk : ((rws L).take (i + 1)).map (·.b) = ((rws L).take i).map (·.b) ++ [q.2.b] := by rw [FR.take_snoc (rat hqi), List.map_append]; rfl
      refine ⟨_, .inl ⟨kvs, Sum.inr q.2.b, e7, rfl, small1830 (by omega), rfl⟩, fun b o eb => ?_, _, upd_same, Nat.le_trans (length_putK _ _ _) (by omega), ?_, ?_, ?_⟩
      · rw [upd_ne (ne_of_none eb hdL)]
        exact sZ _ _ (s5 _ _ eb)
      · rw [etk]
        exact keys_put k5 _ _
      · intro n hn
        by_cases e : n = q.2.b
        · subst e
          refine ⟨z, by rw [valV_put, if_pos rfl], s5.free hz6, by rw [upd_ne ndz]; exact ez⟩
        · have hn2 : n ∈ FR.keysOf (((rws L).take i).map (·.b)) := by
            rw [FR.mem_keysOf, etk] at hn
            rw [FR.mem_keysOf]
            rcases List.mem_append.mp hn with h | h
            · exact h
            · exact absurd (List.mem_singleton.mp h) e
          obtain ⟨c, e1, e2, e3⟩ := v5 n hn2
          exact ⟨c, by rw [valV_put, if_neg fun y => e (Sum.inr.inj y)]; exact e1, e2, by rw [upd_ne (ne_of (sZ _ _ e3) e7 (by intro y; cases y))]; exact sZ _ _ e3⟩
      · intro n m c h1 h2
        rw [valV_put] at h1 h2
        by_cases en : n = q.2.b <;> by_cases em : m = q.2.b
        · rw [en, em]
        · rw [if_pos (by rw [en])] at h1
          rw [if_neg fun y => em (Sum.inr.inj y)] at h2
          cases h1
          exact absurd rfl (hzn m _ h2 (hin m _ h2))
        · rw [if_neg fun y => en (Sum.inr.inj y)] at h1
          rw [if_pos (by rw [em])] at h2
          cases h2
          exact absurd rfl (hzn n _ h1 (hin n _ h1))
        · rw [if_neg fun y => en (Sum.inr.inj y)] at h1
          rw [if_neg fun y => em (Sum.inr.inj y)] at h2
          exact j5 n m c h1 h2
    rintro H5 ⟨s5, kvs, e5, l5, k5, v5, j5⟩
    rw [show L.length = (rws L).length from (rws_len L).symm, List.take_length] at k5 v5
    generalize hNS : FR.keysOf ((rws L).map (·.b)) = NS at k5 v5
    have hNSm : ∀ n, n ∈ NS ↔ n ∈ (rws L).map (·.b) := fun n => by rw [← hNS]; exact FR.mem_keysOf
    have hNSd : NS.Nodup := by rw [← hNS]; exact FR.keysOf_nodup _
    have zv : ∀ n ∈ NS, valV kvs (Sum.inr n) = some (.ref (atK kvs n)) ∧ H4 (atK kvs n) = none ∧ H5 (atK kvs n) = some (.lst []) := fun n hn => by
      obtain ⟨z, h1, h2, h3⟩ := v5 n hn
      rw [atK_of h1]
      exact ⟨h1, h2, h3⟩
    have zi : ∀ n ∈ NS, ∀ m ∈ NS, atK kvs n = atK kvs m → n = m := fun n hn m hm e => j5 n m _ (zv n hn).1 (by rw [e]; exact (zv m hm).1)
    have ha5 := s5 _ _ ha4
    have hT5 : Tups H5 L := hT4.same s5
    -- the loop
    refine ⟨_, rfl, a, rfl, ⟨_, SqL.of ha5⟩, for_it (walk_map (K := K) (a := a) L (fun q : Addr × Rw => V.ref q.1)) (fun i σ H' => (∃ v2, σ = [some (.ref p), some (.ref a), v2, some (.ref dL), none, none, none]) ∧ (∀ b o, H5 b = some o → (∀ n ∈ NS, b ≠ atK kvs n) → H' b = some o) ∧
        ∀ n ∈ NS, H' (atK kvs n) = some (.lst (refs ((L.take i).filter fun q => decide (q.2.b = n)))))
      ⟨⟨_, rfl⟩, fun b o e _ => e, fun n hn => (zv n hn).2.2⟩ (fun i σ H' _ h => SqL.of (h.2.1 _ _ ha5 (fun n hn z => by have := (zv n hn).2.1; rw [← z, ha4] at this; cases this))) ?_ ?_⟩
    · rintro i x σ H7 H6 hi ⟨⟨v2, rfl⟩, s6, f6⟩ ⟨rfl, hx⟩
      obtain ⟨q, hqi⟩ : ∃ q, L[i]? = some q := ⟨_, List.getElem?_eq_getElem hi⟩
      obtain rfl := map_at hqi hx
      have hqL := List.mem_of_getElem? hqi
      have nz : ∀ (b : Addr) (xs : List V), H4 b = some (.tup xs) → ∀ n ∈ NS, b ≠ atK kvs n := fun b xs e n hn z => by have := (zv n hn).2.1; rw [← z, e] at this; cases this
      have hrow := s6 _ _ (hT5 q hqL) (nz _ _ (hT4 q hqL))
      have hqn : q.2.b ∈ NS := (hNSm _).mpr (List.mem_map.mpr ⟨q.2, mem_rws hqL, rfl⟩)
      have ndl : ∀ n ∈ NS, dL ≠ atK kvs n := fun n hn z => by have := (zv n hn).2.2; rw [← z, e5] at this; cases this
      have eL := s6 _ _ e5 ndl
      have gd := DGet.k (k := Sum.inr q.2.b) eL
      rw [(zv _ hqn).1] at gd
      have ez := f6 _ hqn
      have hfl : ((L.take i).filter fun y => decide (y.2.b = q.2.b)).length ≤ 60 := Nat.le_trans (List.length_filter_le _ _) (by rw [List.length_take]; omega)
      refine ⟨_, rfl, _, rfl, q.1, cells q.2, 1, _, rfl, rfl, SqT.of hrow, rfl, dL, _, rfl, gd, .inl ⟨rfl, _, SqL.of ez⟩, _, rfl, atK kvs q.2.b, _, _, rfl, rfl, ez, by rw [refs_len]; exact small1830 (by omega), ⟨_, rfl⟩, fun b o e hb => ?_, fun n hn => ?_⟩
      · rw [upd_ne (hb _ hqn)]
        exact s6 _ _ e hb
      · rw [FR.take_snoc hqi, List.filter_append]
        by_cases e : q.2.b = n
        · subst e
          rw [upd_same, List.filter_cons_of_pos (by simp)]
          unfold refs
          rw [List.map_append]
          rfl
        · rw [upd_ne (fun z => e (zi n hn _ hqn z).symm), f6 n hn, List.filter_cons_of_neg (by simp [e])]
          simp
    rintro σ H6 ⟨⟨v2, rfl⟩, s6, f6⟩
    rw [List.take_length] at f6
    have nzP : ∀ (b : Addr) (o : HO), H4 b = some o → ∀ n ∈ NS, b ≠ atK kvs n := fun b o e n hn z => by have := (zv n hn).2.1; rw [← z, e] at this; cases this
    have p6 := s6 _ _ (s5 _ _ p4) (nzP _ _ p4)
    have e6 : H6 dL = some (.dK kvs) := s6 _ _ e5 (fun n hn z => by have := (zv n hn).2.2; rw [← z, e5] at this; cases this)
    have b6 : But p H H6 := fun b o e hb => s6 _ _ (s5 _ _ (b4 _ _ e hb)) (nzP _ _ (b4 _ _ e hb))
    have hT6 : Tups H6 L := hT.but b6 nq
    have tb6 : LamX.Tabs (TPut K) H6 := tabs_but hTb hp (fun ps z => by cases z) (fun c q => codeO_ne2 fun φ z => by cases z) b6
    have hkl : kvs.length = NS.length := by have := congrArg List.length k5; rw [List.length_map, List.length_map] at this; exact this
    have hNSl : NS.length ≤ 60 := by rw [← hkl]; omega
    have kvn : (kvs.map (·.1)).Nodup := by
      rw [k5]
      exact List.Pairwise.map _ (fun a b h z => h (Sum.inr.inj z)) (List.nodup_iff_pairwise_ne.mp hNSd)
    have kvat : ∀ (i : Nat) (kv : Key × V), kvs[i]? = some kv → ∃ n, NS[i]? = some n ∧ kv.1 = Sum.inr n ∧ kv.2 = .ref (atK kvs n) := fun i kv h => by
      have h1 : (kvs.map (·.1))[i]? = some kv.1 := by rw [List.getElem?_map, h]; rfl
      rw [k5, List.getElem?_map] at h1
      cases e : NS[i]? with
      | none => rw [e] at h1; cases h1
      | some n =>
        rw [e] at h1
        have e2 : Sum.inr n = kv.1 := Option.some.inj h1
        have h2 := valV_nodup kvn h
        rw [← e2, (zv n (List.mem_of_getElem? e)).1] at h2
        exact ⟨n, rfl, e2.symm, (Option.some.inj h2).symm⟩
    -- self.lines
    refine ⟨dL, _, e6, trivial, fun od => ?_⟩
    have eL : (upd H6 dL (.frz od (.dK kvs))) dL = some (.frz od (.dK kvs)) := upd_same
    have bL : But dL H6 (upd H6 dL (.frz od (.dK kvs))) := (But.refl _ _).put
    have hback : ∀ b, b ≠ dL → (upd H6 dL (.frz od (.dK kvs))) b = H6 b := fun b hb => upd_ne hb
    generalize upd H6 dL (.frz od (.dK kvs)) = HL at eL bL hback ⊢
    have tbL : LamX.Tabs (TPut K) HL := tabs_but tb6 e6 (fun ps z => by cases z) (fun c q => codeO_ne2 fun φ z => by cases z) bL
    have hTL : Tups HL L := hT6.but bL fun q hq => ne_of (hT6 q hq) e6 (by intro z; cases z)
    have fL : ∀ n ∈ NS, HL (atK kvs n) = some (.lst (refs (L.filter fun q => decide (q.2.b = n)))) := fun n hn => bL _ _ (f6 n hn) (ne_of (f6 n hn) e6 (by intro z; cases z))
    refine ⟨_, rfl, dL, od, kvs, rfl, eL, fun D5 hD5 => ?_⟩
    have nD5L : D5 ≠ dL := fun z => by rw [z, eL] at hD5; cases hD5
    refine dp_it (walk_items (d := dL) (o := od) (kvs := kvs)) (fun i H' => LamX.ExtN HL H' ∧ LamX.Tabs (TPut K) H' ∧ ∃ kv5 : List (Key × V), H' D5 = some (.dK kv5) ∧ kv5.length ≤ i ∧ kv5.map (·.1) = (NS.take i).map Sum.inr ∧
        ∀ n ∈ NS.take i, ∃ (c : Addr) (Ls : RL), valV kv5 (Sum.inr n) = some (.ref c) ∧ H' c = some (.lst (refs Ls)) ∧ Tups H' Ls ∧ rws Ls = lineOf (rws L) n)
      ⟨fun b o e _ => Same.upd hD5 _ _ e, tbL.ext (Same.upd hD5), [], upd_same, Nat.le_refl _, rfl, fun n hn => by cases hn⟩ (fun i H' _ h => h.1 _ _ eL (fun ps z => by cases z)) ?_ ?_
    · rintro i x H7 H8 hi ⟨x7, tb7, kv5, e7, l7, k7, v7⟩ ⟨t, xk, xv, rfl, ht, rfl, hxk, hxv⟩
      obtain ⟨kv, hkv⟩ : ∃ kv, kvs[i]? = some kv := ⟨_, List.getElem?_eq_getElem hi⟩
      have hxk : xk = kV kv.1 := by
        have h1 : (kvs[i]?.map fun kv => kV kv.1) = some xk := hxk
        rw [hkv] at h1
        exact (Option.some.inj h1).symm
      have hxv : xv = kv.2 := by
        have h1 : (kvs[i]?.map Prod.snd) = some xv := hxv
        rw [hkv] at h1
        exact (Option.some.inj h1).symm
      obtain ⟨n, hn, ek, ev⟩ := kvat i kv hkv
      rw [ek] at hxk
      rw [ev] at hxv
      subst hxk hxv
      have hnm := List.mem_of_getElem? hn
      have sT : Same H7 (upd H7 t (.tup [kV (Sum.inr n), .ref (atK kvs n)])) := Same.upd ht
      have et : (upd H7 t (.tup [kV (Sum.inr n), .ref (atK kvs n)])) t = some (.tup [.str n, .ref (atK kvs n)]) := upd_same
      generalize upd H7 t (.tup [kV (Sum.inr n), .ref (atK kvs n)]) = H8 at sT et ⊢
      refine ⟨t, _, rfl, SqT.of et, rfl, _, _, rfl, _, _, rfl, rfl, rfl, ?_⟩
      have ntb : ∀ (xs : List V) (ps : Array Value), HO.lst xs ≠ .tbl ps := fun xs ps z => by cases z
      have ntt : ∀ (xs : List V) (ps : Array Value), HO.tup xs ≠ .tbl ps := fun xs ps z => by cases z
      refine ⟨_, rfl, _, rfl, _, rfl, atK kvs n, klI (L.filter fun q => decide (q.2.b = n)), rfl, tb7.ext sT, fun H9 x9 tb9 => ?_⟩
      have row9 : ∀ q ∈ L, H9 q.1 = some (.tup (cells q.2)) := fun q hq => x9 _ _ (sT _ _ (x7 _ _ (hTL q hq) (ntt _))) (ntt _)
      have l9 : H9 (atK kvs n) = some (.lst (refs (L.filter fun q => decide (q.2.b = n)))) := x9 _ _ (sT _ _ (x7 _ _ (fL n hnm) (ntb _))) (ntb _)
      refine ⟨SqL.of (by rw [klI_refs]; exact l9), ?_, ?_, ?_, ?_, ?_, fun sN hsN => ?_⟩
      · intro q hq
        obtain ⟨y, _, rfl⟩ := List.mem_map.mp hq
        exact .int _
      · intro d hd d' hd'
        unfold klI at hd hd'
        rw [List.map_map] at hd hd'
        obtain ⟨y, _, rfl⟩ := List.mem_map.mp hd
        obtain ⟨y', _, rfl⟩ := List.mem_map.mp hd'
        simp [PySem.W.alike]
      · right
        intro d hd
        unfold klI at hd
        rw [List.map_map] at hd
        obtain ⟨y, _, rfl⟩ := List.mem_map.mp hd
        exact ⟨fun z => (by cases z), fun xs z => (by cases z)⟩
      · intro q hq
        obtain ⟨y, _, rfl⟩ := List.mem_map.mp hq
        exact (lay_int _).2
      · intro q hq
        obtain ⟨y, hy, rfl⟩ := List.mem_map.mp hq
        exact ⟨_, rfl, y.1, cells y.2, 2, _, rfl, rfl, SqT.of (row9 y (List.mem_filter.mp hy).1), rfl, _, _, rfl, rfl, rfl, rfl⟩
      · rw [klI_sort]
        have sN9 : Same H9 (upd H9 sN (.lst (refs (sortI (L.filter fun q => decide (q.2.b = n)))))) := Same.upd hsN
        have eN : (upd H9 sN (.lst (refs (sortI (L.filter fun q => decide (q.2.b = n)))))) sN = some (.lst (refs (sortI (L.filter fun q => decide (q.2.b = n))))) := upd_same
        generalize upd H9 sN (.lst (refs (sortI (L.filter fun q => decide (q.2.b = n))))) = H10 at sN9 eN ⊢
        have x710 : LamX.ExtN H7 H10 := fun b o e nb => sN9 _ _ (x9 _ _ (sT _ _ e) nb)
        have e10 : H10 D5 = some (.dK kv5) := x710 _ _ e7 (fun ps z => by cases z)
        have nsD : sN ≠ D5 := ne_of eN e10 (by intro z; cases z)
        have hfresh : valV kv5 (Sum.inr n : Key) = none := by
          cases e : valV kv5 (Sum.inr n : Key) with
          | none => rfl
          | some y =>
            have := valV_in e
            rw [k7] at this
            obtain ⟨m, hm, em⟩ := List.mem_map.mp this
            have em : m = n := Sum.inr.inj em
            subst em
            obtain ⟨j, hj, hj2⟩ := take_ofL hm
            have := (List.getElem?_inj (List.getElem?_eq_some_iff.mp hj2).1 hNSd).mp (hj2.trans hn.symm)
            omega
        refine ⟨_, .inl ⟨kv5, Sum.inr n, e10, rfl, small1830 (by omega), rfl⟩, fun b o e nb => ?_, ?_, _, upd_same, Nat.le_trans (length_putK _ _ _) (by omega), ?_, ?_⟩
        · rw [upd_ne (ne_of_none e hD5)]
          exact x710 _ _ (x7 _ _ e nb) nb
        · exact tabs_but (tb9.ext sN9) e10 (fun ps z => by cases z) (fun c q => codeO_ne2 fun φ z => by cases z) (But.refl _ _).put
        · rw [putK_new _ hfresh, List.map_append, k7, FR.take_snoc hn, List.map_append]
          rfl
        · intro m hm
          rw [FR.take_snoc hn] at hm
          have neD : ∀ (b : Addr) (o : HO), H10 b = some o → (∀ kv, o ≠ .dK kv) → b ≠ D5 := fun b o e ho z => by rw [z, e10] at e; exact ho _ (Option.some.inj e).symm
          rcases List.mem_append.mp hm with h | h
          · obtain ⟨c, Ls, g1, g2, g3, g4⟩ := v7 m h
            have hmn : m ≠ n := fun z => by
              obtain ⟨j, hj, hj2⟩ := take_ofL h
              rw [z] at hj2
              have := (List.getElem?_inj (List.getElem?_eq_some_iff.mp hj2).1 hNSd).mp (hj2.trans hn.symm)
              omega
            refine ⟨c, Ls, by rw [valV_put, if_neg fun z => hmn (Sum.inr.inj z)]; exact g1, ?_, fun q hq => ?_, g4⟩
            · have := x710 _ _ g2 (ntb _)
              rw [upd_ne (neD _ _ this (fun kv z => by cases z))]
              exact this
            · have := x710 _ _ (g3 q hq) (ntt _)
              rw [upd_ne (neD _ _ this (fun kv z => by cases z))]
              exact this
          · rw [List.mem_singleton.mp h]
            refine ⟨sN, sortI (L.filter fun q => decide (q.2.b = n)), by rw [valV_put, if_pos rfl], by rw [upd_ne nsD]; exact eN, fun q hq => ?_, sortI_rws L n⟩
            have := sN9 _ _ (row9 q (List.mem_filter.mp (sortI_mem.mp hq)).1)
            rw [upd_ne (neD _ _ this (fun kv z => by cases z))]
            exact this
    rintro H7 ⟨x7, tb7, kv5, e7, l7, k7, v7⟩
    rw [hkl, List.take_length] at k7 v7
    refine ⟨x7 _ _ eL (fun ps z => by cases z), ?_⟩
    have npL : p ≠ dL := ne_of p6 e6 (by intro z; cases z)
    have p7 : H7 p = some (.ins (He.ga K "PairTable") dx [(("rows" : Str), V.ref tr), (("by_pair" : Str), V.ref D1)]) := x7 _ _ (bL _ _ p6 npL) (fun ps z => by cases z)
    have eL7 := x7 _ _ eL (fun ps z => by cases z)
    have hdLn : ∀ b o, H b = some o → b ≠ p → b ≠ dL := fun b o e hb => ne_of_none (b4 _ _ e hb) hdL
    have n7 : ButN p H H7 := fun b o e hb nt => x7 _ _ (bL _ _ (b6 _ _ e hb) (hdLn _ _ e hb)) nt
    have hD5p : D5 ≠ p := ne_of e7 p7 (by intro z; cases z)
    refine ⟨_, rfl, p, _, dx, _, rfl, (by rw [upd_ne npL]; exact p7), T.cT, T.Tlines, (by show 2 < 1000; decide), ?_⟩
    have up8 : ∀ b, b ≠ dL → b ≠ p → (upd (upd H7 dL (.dK kvs)) p (.ins (He.ga K "PairTable") dx (putF "lines" (.ref D5) [(("rows" : Str), V.ref tr), (("by_pair" : Str), V.ref D1)]))) b = H7 b := fun b h1 h2 => by rw [upd_ne h2, upd_ne h1]
    have p8 : (upd (upd H7 dL (.dK kvs)) p (.ins (He.ga K "PairTable") dx (putF "lines" (.ref D5) [(("rows" : Str), V.ref tr), (("by_pair" : Str), V.ref D1)]))) p = some (.ins (He.ga K "PairTable") dx [(("rows" : Str), V.ref tr), (("by_pair" : Str), V.ref D1), (("lines" : Str), V.ref D5)]) := upd_same
    have tb8 : LamX.Tabs (TPut K) (upd (upd H7 dL (.dK kvs)) p (.ins (He.ga K "PairTable") dx (putF "lines" (.ref D5) [(("rows" : Str), V.ref tr), (("by_pair" : Str), V.ref D1)]))) :=
      tabs_but (tabs_but tb7 eL7 (fun ps z => by cases z) (fun c q => codeO_ne2 fun φ z => by cases z) (But.refl _ _).put) (by rw [upd_ne npL]; exact p7) (fun ps z => by cases z) (fun c q => codeO_ne2 fun φ z => by cases z) (But.refl _ _).put
    generalize upd (upd H7 dL (.dK kvs)) p (.ins (He.ga K "PairTable") dx (putF "lines" (.ref D5) [(("rows" : Str), V.ref tr), (("by_pair" : Str), V.ref D1)])) = H8 at up8 p8 tb8 ⊢
    have e8 : H8 D5 = some (.dK kv5) := by rw [up8 _ nD5L hD5p]; exact e7
    have n8 : ButN p H H8 := fun b o e hb nt => by rw [up8 _ (hdLn _ _ e hb) hb]; exact n7 _ _ e hb nt
    have k78 : ∀ (b : Addr) (o : HO), H7 b = some o → (∀ od kvs, o ≠ .frz od (.dK kvs)) → (∀ C d fs, o ≠ .ins C d fs) → H8 b = some o := fun b o e h1 h2 => by
      rw [up8 _ (fun z => by rw [z, eL7] at e; exact h1 _ _ (Option.some.inj e).symm) (fun z => by rw [z, p7] at e; exact h2 _ _ _ (Option.some.inj e).symm)]
      exact e
    have v8 : ∀ n ∈ NS, ∃ (c : Addr) (Ls : RL), valV kv5 (Sum.inr n) = some (.ref c) ∧ H8 c = some (.lst (refs Ls)) ∧ Tups H8 Ls ∧ rws Ls = lineOf (rws L) n := fun n hn => by
      obtain ⟨c, Ls, g1, g2, g3, g4⟩ := v7 n hn
      exact ⟨c, Ls, g1, k78 _ _ g2 (fun _ _ z => by cases z) (fun _ _ _ z => by cases z), fun q hq => k78 _ _ (g3 q hq) (fun _ _ z => by cases z) (fun _ _ _ z => by cases z), g4⟩
    have k5l : kv5.length = NS.length := by have := congrArg List.length k7; rw [List.length_map, List.length_map] at this; exact this
    have kvn5 : (kv5.map (·.1)).Nodup := by
      rw [k7]
      exact List.Pairwise.map _ (fun a b h z => h (Sum.inr.inj z)) (List.nodup_iff_pairwise_ne.mp hNSd)
    -- ranks
    refine ⟨D5, _, e8, trivial, fun o5 => ?_⟩
    have eM : (upd H8 D5 (.frz o5 (.dK kv5))) D5 = some (.frz o5 (.dK kv5)) := upd_same
    have bM : But D5 H8 (upd H8 D5 (.frz o5 (.dK kv5))) := (But.refl _ _).put
    generalize upd H8 D5 (.frz o5 (.dK kv5)) = HM at eM bM ⊢
    have tbM : LamX.Tabs (TPut K) HM := tabs_but tb8 e8 (fun ps z => by cases z) (fun c q => codeO_ne2 fun φ z => by cases z) bM
    have pM := bM _ _ p8 hD5p.symm
    have nM : ∀ b o, H b = some o → b ≠ p → b ≠ D5 := fun b o e hb z => by
      by_cases hh : ∃ ps, o = .tbl ps
      · obtain ⟨ps, rfl⟩ := hh
        have h1 := bL _ _ (b6 _ _ e hb) (hdLn _ _ e hb)
        rw [z, hD5] at h1
        cases h1
      · have h1 := n8 _ _ e hb (fun ps y => hh ⟨ps, y⟩)
        have h2 := bL _ _ (b6 _ _ e hb) (hdLn _ _ e hb)
        rw [z, hD5] at h2
        cases h2
    have n9 : ButN p H HM := fun b o e hb nt => bM _ _ (n8 _ _ e hb nt) (nM _ _ e hb)
    refine ⟨_, rfl, p, _, dx, _, _, rfl, pM, T.cT, T.Tlines, rfl, D5, o5, kv5, rfl, eM, fun D6 hD6 => ?_⟩
    refine dp_it (walk_items (d := D5) (o := o5) (kvs := kv5)) (fun i H' => Same HM H' ∧ ∃ kv6 : List (Key × V), H' D6 = some (.dK kv6) ∧ kv6.length ≤ i ∧ kv6.map (·.1) = (NS.take i).map Sum.inr ∧
        ∀ n ∈ NS.take i, ∃ c : Addr, valV kv6 (Sum.inr n) = some (.ref c) ∧ H' c = some (.lst ((FR.ranksOf (rws L) n).map V.int)))
      ⟨Same.upd hD6, [], upd_same, Nat.le_refl _, rfl, fun n hn => by cases hn⟩ (fun i H' _ h => h.1 _ _ eM) ?_ ?_
    · rintro i x H9 H10 hi ⟨s9, kv6, e9, l9, k9, v9⟩ ⟨t, xk, xv, rfl, ht, rfl, hxk, hxv⟩
      obtain ⟨kv, hkv⟩ : ∃ kv, kv5[i]? = some kv := ⟨_, List.getElem?_eq_getElem hi⟩
      have hxk : xk = kV kv.1 := by
        have h1 : (kv5[i]?.map fun kv => kV kv.1) = some xk := hxk
        rw [hkv] at h1
        exact (Option.some.inj h1).symm
      have hxv : xv = kv.2 := by
        have h1 : (kv5[i]?.map Prod.snd) = some xv := hxv
        rw [hkv] at h1
        exact (Option.some.inj h1).symm
      obtain ⟨n, hn, ek⟩ : ∃ n, NS[i]? = some n ∧ kv.1 = Sum.inr n := by
        have h1 : (kv5.map (·.1))[i]? = some kv.1 := by rw [List.getElem?_map, hkv]; rfl
        rw [k7, List.getElem?_map] at h1
        cases e : NS[i]? with
        | none => rw [e] at h1; cases h1
        | some n => rw [e] at h1; exact ⟨n, rfl, (Option.some.inj h1).symm⟩
      have hnm := List.mem_of_getElem? hn
      obtain ⟨c, Ls, g1, g2, g3, g4⟩ := v8 n hnm
      have ev : kv.2 = .ref c := by
        have h2 := valV_nodup kvn5 hkv
        rw [ek, g1] at h2
        exact (Option.some.inj h2).symm
      rw [ek] at hxk
      rw [ev] at hxv
      subst hxk hxv
      have g2M := bM _ _ g2 (ne_of g2 e8 (by intro z; cases z))
      have g3M : Tups HM Ls := g3.but bM fun q hq => ne_of (g3 q hq) e8 (by intro z; cases z)
      have hLs : Ls.length ≤ 60 := by
        rw [← rws_len, g4]
        unfold lineOf
        rw [List.length_mergeSort]
        refine Nat.le_trans (List.length_filter_le _ _) ?_
        rw [rws_len]
        exact hl
      have sT : Same H9 (upd H9 t (.tup [kV (Sum.inr n), .ref c])) := Same.upd ht
      have et : (upd H9 t (.tup [kV (Sum.inr n), .ref c])) t = some (.tup [.str n, .ref c]) := upd_same
      generalize upd H9 t (.tup [kV (Sum.inr n), .ref c]) = H10 at sT et ⊢
      have s10 := s9.trans sT
      refine ⟨t, _, rfl, SqT.of et, rfl, _, _, rfl, _, _, rfl, rfl, rfl, ?_⟩
      refine ⟨_, rfl, _, rfl, c, rfl, ⟨_, SqL.of (s10 _ _ g2M)⟩, fun D hD => ?_⟩
      refine lc_map Ls (fun q => some (V.int q.2.k)) (walk_map _ (fun q : Addr × Rw => V.ref q.1)) hD (small1830 (by omega)) (fun H4 s4 => SqL.of (s4 _ _ (s10 _ _ g2M))) ?_ ?_
      · rintro j m v H5 H4 Rr N hm s4 ⟨rfl, hx⟩ hR hN
        obtain rfl := map_at hm hx
        exact ⟨rfl, _, rfl, m.1, cells m.2, 3, _, rfl, rfl, SqT.of (s4 _ _ (s10 _ _ (g3M m (List.mem_of_getElem? hm)))), rfl, hR _ _ rfl (Same.refl _)⟩
      · intro H4 s4 e4
        have e5' : (Ls.filterMap fun q => some (V.int q.2.k)) = (FR.ranksOf (rws L) n).map V.int := by
          rw [List.filterMap_eq_map']
          unfold FR.ranksOf
          rw [← g4]
          unfold rws
          rw [List.map_map, List.map_map] <;> rfl
        rw [e5'] at e4
        have s94 := sT.trans s4
        have e10 := s94 _ _ e9
        have nDD : D ≠ D6 := ne_of e4 e10 (by intro z; cases z)
        have hfresh : valV kv6 (Sum.inr n : Key) = none := by
          cases e : valV kv6 (Sum.inr n : Key) with
          | none => rfl
          | some y =>
            have := valV_in e
            rw [k9] at this
            obtain ⟨m, hm, em⟩ := List.mem_map.mp this
            have em : m = n := Sum.inr.inj em
            subst em
            obtain ⟨j, hj, hj2⟩ := take_ofL hm
            have := (List.getElem?_inj (List.getElem?_eq_some_iff.mp hj2).1 hNSd).mp (hj2.trans hn.symm)
            omega
        refine ⟨_, .inl ⟨kv6, Sum.inr n, e10, rfl, small1830 (by omega), rfl⟩, fun b o eb => ?_, _, upd_same, Nat.le_trans (length_putK _ _ _) (by omega), ?_, ?_⟩
        · rw [upd_ne (ne_of_none eb hD6)]
          exact s94 _ _ (s9 _ _ eb)
        · rw [putK_new _ hfresh, List.map_append, k9, FR.take_snoc hn, List.map_append]
          rfl
        · intro m hm
          rw [FR.take_snoc hn] at hm
          rcases List.mem_append.mp hm with h | h
          · obtain ⟨c', g1', g2'⟩ := v9 m h
            have hmn : m ≠ n := fun z => by
              obtain ⟨j, hj, hj2⟩ := take_ofL h
              rw [z] at hj2
              have := (List.getElem?_inj (List.getElem?_eq_some_iff.mp hj2).1 hNSd).mp (hj2.trans hn.symm)
              omega
            refine ⟨c', by rw [valV_put, if_neg fun z => hmn (Sum.inr.inj z)]; exact g1', ?_⟩
            rw [upd_ne (ne_of g2' e9 (by intro z; cases z))]
            exact s94 _ _ g2'
          · rw [List.mem_singleton.mp h]
            exact ⟨D, by rw [valV_put, if_pos rfl], by rw [upd_ne nDD]; exact e4⟩
    rintro H9 ⟨s9, kv6, e9, l9, k9, v9⟩
    rw [k5l, List.take_length] at k9 v9
    have eM9 := s9 _ _ eM
    refine ⟨eM9, ?_⟩
    have nD6 : D6 ≠ D5 := ne_of e9 eM9 (by intro z; cases z)
    have eX : (upd H9 D5 (.dK kv5)) D6 = some (.dK kv6) := by rw [upd_ne nD6]; exact e9
    have bX : But D5 HM (upd H9 D5 (.dK kv5)) := (But.of s9).put
    have e5X : (upd H9 D5 (.dK kv5)) D5 = some (.dK kv5) := upd_same
    have tbX : LamX.Tabs (TPut K) (upd H9 D5 (.dK kv5)) := tabs_but (tbM.ext s9) eM9 (fun ps z => by cases z) (fun c q => codeO_ne2 fun φ z => by cases z) (But.refl _ _).put
    have v10 : ∀ n ∈ NS, valV kv6 (Sum.inr n) = some (.ref (atK kv6 n)) ∧ (upd H9 D5 (.dK kv5)) (atK kv6 n) = some (.lst ((FR.ranksOf (rws L) n).map V.int)) := fun n hn => by
      obtain ⟨c, g1, g2⟩ := v9 n hn
      rw [atK_of g1]
      exact ⟨g1, by rw [upd_ne (ne_of g2 eM9 (by intro z; cases z))]; exact g2⟩
    have v8X : ∀ n ∈ NS, ∃ (c : Addr) (Ls : RL), valV kv5 (Sum.inr n) = some (.ref c) ∧ (upd H9 D5 (.dK kv5)) c = some (.lst (refs Ls)) ∧ Tups (upd H9 D5 (.dK kv5)) Ls ∧ rws Ls = lineOf (rws L) n := fun n hn => by
      obtain ⟨c, Ls, g1, g2, g3, g4⟩ := v8 n hn
      have q2 := ne_of g2 e8 (by intro z; cases z)
      have q3 : ∀ q ∈ Ls, q.1 ≠ D5 := fun q hq => ne_of (g3 q hq) e8 (by intro z; cases z)
      exact ⟨c, Ls, g1, bX _ _ (bM _ _ g2 q2) q2, fun q hq => bX _ _ (bM _ _ (g3 q hq) (q3 q hq)) (q3 q hq), g4⟩
    have pX := bX _ _ pM hD5p.symm
    have nX : ButN p H (upd H9 D5 (.dK kv5)) := fun b o e hb nt => bX _ _ (n9 _ _ e hb nt) (nM _ _ e hb)
    generalize upd H9 D5 (.dK kv5) = HX at eX e5X tbX v10 v8X pX nX ⊢
    -- self.order
    refine ⟨_, rfl, D6, kv6, rfl, eX, fun q hq => ?_⟩
    have sQ : Same HX (upd HX q (.lst (kv6.map fun kv => kV kv.1))) := Same.upd hq
    have eQ : (upd HX q (.lst (kv6.map fun kv => kV kv.1))) q = some (.lst (NS.map V.str)) := by
      rw [upd_same]
      have : (kv6.map fun kv => kV kv.1) = (kv6.map (·.1)).map kV := by rw [List.map_map]; rfl
      rw [this, k9, List.map_map]
      rfl
    generalize upd HX q (.lst (kv6.map fun kv => kV kv.1)) = HY at sQ eQ ⊢
    refine ⟨_, rfl, q, NS.map fun n => (V.str n, V.ref (atK kv6 n), PyData.list ((FR.ranksOf (rws L) n).map .int)), rfl, tbX.ext sQ, fun HZ xZ tbZ => ?_⟩
    have ntb : ∀ (xs : List V) (ps : Array Value), HO.lst xs ≠ .tbl ps := fun xs ps z => by cases z
    have ntk : ∀ (kv : List (Key × V)) (ps : Array Value), HO.dK kv ≠ .tbl ps := fun kv ps z => by cases z
    have eZ := xZ _ _ (sQ _ _ eX) (ntk _)
    have vZ : ∀ n ∈ NS, HZ (atK kv6 n) = some (.lst ((FR.ranksOf (rws L) n).map V.int)) := fun n hn => xZ _ _ (sQ _ _ (v10 n hn).2) (ntb _)
    refine ⟨?_, ?_, ?_, ?_, ?_, ?_, fun sN hsN => ?_⟩
    · rw [List.map_map]
      exact SqL.of (xZ _ _ eQ (ntb _))
    · intro d hd
      obtain ⟨n, hn, rfl⟩ := List.mem_map.mp hd
      exact .lst (SqL.of (vZ n hn)) (dpAll_map V.int PyData.int _ fun x _ => .int _)
    · rw [List.map_map]
      intro d hd d' hd'
      obtain ⟨y, _, rfl⟩ := List.mem_map.mp hd
      obtain ⟨y', _, rfl⟩ := List.mem_map.mp hd'
      show PySem.W.alike (PyData.list ((FR.ranksOf (rws L) y).map .int)) (PyData.list ((FR.ranksOf (rws L) y').map .int)) = true
      rw [PySem.W.alike]
      exact alike_ints _ _
    · right
      rw [List.map_map]
      intro d hd
      obtain ⟨y, _, rfl⟩ := List.mem_map.mp hd
      exact ⟨fun z => (by cases z), fun xs z => (by cases z)⟩
    · intro d hd
      obtain ⟨y, _, rfl⟩ := List.mem_map.mp hd
      exact depth_ints _
    · intro d hd
      obtain ⟨n, hn, rfl⟩ := List.mem_map.mp hd
      have gd := DGet.k (k := Sum.inr n) eZ
      rw [(v10 n hn).1] at gd
      exact ⟨_, rfl, _, rfl, D6, _, rfl, gd, rfl, rfl⟩
    have eS : ((NS.map fun n => (V.str n, V.ref (atK kv6 n), PyData.list ((FR.ranksOf (rws L) n).map .int))).mergeSort (PySem.W.dataLe false (·.2.2))).map (·.1) = (order (rws L)).map V.str := by
      unfold order FR.names
      rw [hNS, ← PySem.W.dataLe_rows (FR.ranksOf (rws L))]
      rw [← List.map_mergeSort (r := PySem.W.dataLe false fun n : Str => PyData.list ((FR.ranksOf (rws L) n).map .int)) (s := PySem.W.dataLe false (·.2.2)) (f := fun n : Str => (V.str n, V.ref (atK kv6 n), PyData.list ((FR.ranksOf (rws L) n).map .int))) fun a _ b _ => rfl, List.map_map]
      rfl
    rw [eS]
    refine ⟨sN, _, rfl, .inl ⟨SqL.of upd_same, fun l hl => ?_⟩⟩
    have sW : Same HZ (upd (upd HZ sN (.lst ((order (rws L)).map V.str))) l (.tup ((order (rws L)).map V.str))) := (Same.upd hsN).trans (Same.upd hl)
    have eW : (upd (upd HZ sN (.lst ((order (rws L)).map V.str))) l (.tup ((order (rws L)).map V.str))) l = some (.tup ((order (rws L)).map V.str)) := upd_same
    generalize upd (upd HZ sN (.lst ((order (rws L)).map V.str))) l (.tup ((order (rws L)).map V.str)) = HW at sW eW ⊢
    have xW : LamX.ExtN HX HW := fun b o e nt => sW _ _ (xZ _ _ (sQ _ _ e) nt)
    have pW := xW _ _ pX (fun ps z => by cases z)
    refine ⟨_, rfl, p, _, dx, _, rfl, pW, T.cT, T.Torder, (by show 3 < 1000; decide), ?_⟩
    have bW : But p HX HX := But.refl _ _
    refine k _ ⟨dx, tr, D1, D5, l, upd_same, ⟨kv5, ?_, fun n hn => ?_⟩, ?_⟩ (fun b o e hb nt => ?_) (tabs_but (tbZ.ext sW) pW (fun ps z => by cases z) (fun c q => codeO_ne2 fun φ z => by cases z) (But.refl _ _).put)
    · rw [upd_ne hD5p]
      exact xW _ _ e5X (ntk _)
    · obtain ⟨c, Ls, g1, g2, g3, g4⟩ := v8X n ((hNSm n).mpr hn)
      have g2' := xW _ _ g2 (ntb _)
      refine ⟨c, Ls, g1, by rw [upd_ne (ne_of g2' pW (by intro z; cases z))]; exact g2', fun q hq => ?_, g4⟩
      have g3' := xW _ _ (g3 q hq) (fun ps z => by cases z)
      rw [upd_ne (ne_of g3' pW (by intro z; cases z))]
      exact g3'
    · rw [upd_ne (ne_of eW pW (by intro z; cases z))]
      exact eW
    · rw [upd_ne hb]
      exact xW _ _ (nX _ _ e hb nt) nt
end
end KW
end

section
set_option Elab.async false
set_option linter.all false
set_option maxRecDepth 100000
set_option maxHeartbeats 4000000
/-! PairTable.__init__. -/
namespace KW
open PySem PySem.Spec PyProof.Rows L2 KR
open FR (Ok Rows lineOf worthOf order forestOf)
section
variable {P : Program} {w : World} {K : PySem.W.Frag} {mg : Str → Option Value} {base : Heap}
def spPInit (K : PySem.W.Frag) : Sp := fun vs H Q _ => ∃ (p dx a : Addr) (L : RL) (pool : List Str), vs = [.ref p, .ref a] ∧ H p = some (.ins (He.ga K "PairTable") dx []) ∧ H a = some (.lst (refs L)) ∧ Tups H L ∧ L.length ≤ 60 ∧ (∀ n ∈ pool, NameOk n) ∧ pool.length ≤ 60 ∧ FR.Wf pool (rws L) ∧ FR.judged (rws L) = none ∧ LamX.Tabs (TPut K) H ∧
  ∀ H', TableAt K H' p ((rws L).mergeSort leR) → ButN p H H' → LamX.Tabs (TPut K) H' → Q .non H'
abbrev NPi : List Str := ["self", "rows", "fault", "row"]
theorem ndPi : NPi.Nodup := by decide +kernel
theorem ok_pinit (T : TX K mg) (TB : LamX.TabB base mg (cPut K) (pPut K)) : DfX P w K mg base 5 dPInit ["self", "rows"] (spPInit K) := by
  obtain ⟨fdJ, GJ⟩ := ok_judge (P := P) (w := w) (base := base) T
  obtain ⟨fdP, GP⟩ := ok_put (P := P) (w := w) (base := base) T TB
  refine df_mk T 39 rfl (N := NPi) ⟨rfl, rfl, rfl, by decide +kernel, rfl, by decide +kernel, by decide +kernel⟩ (fun _ _ _ _ _ _ us hl => match us, hl with | [_, _], _ => rfl) (fun vs H Q E h => ?_) (fun cdv A outer s H vs Q E hr h => ?_)
  · obtain ⟨p, dx, a, L, pool, rfl, _⟩ := h
    rfl
  · obtain ⟨p, dx, a, L, pool, rfl, hp, ha, hT, hl, hpl, hpl2, wf, hj, hTb, k⟩ := h
    have hu64 : (A.deeper (envOfC dPInit.qual dPInit.scope s.heap.objs.size (He.fAd K dPInit.at_) cdv)).units + 64 < cLine := by have := hr.un; omega
    refine ⟨_, pss_cons (ps_set (i := 2) ndPi rfl (Or.inl rfl) (pe_call GJ.ok hr rfl (T.gl 11 _ rfl) GJ.kp GJ.b .nil pass0 (pa_cons (pv 1) pa_nil)))
      (pss_cons (ps_if (pt_cmpR op_notN (pv 2) pe_non (nomark _)) pss_never pss_nil)
      (pss_one (ps_expr (pe_meth (pv 0) T.cT T.mTput GP.ok hr GP.b .nil pass0 (pa_cons (pe_callB (cr_sortD hu64) (by rfl) T.sorted (by decide +kernel) (pa_cons (pe_lc (own := [("row", 3)]) (g := gName 3) (tt := tYes) rfl ndPi (pi_list (pv 1)) (blkOk_by (N := NPi) (sc := dPInit.scope) (by decide +kernel))
          (fun _ _ _ _ _ => pg_name (i := 3) ndPi rfl (Or.inl rfl)) (fun _ _ _ _ _ => pts_nil) (fun _ _ _ _ _ => pe_callTy (call_tupK K rfl) (by rfl) T.tuple boot_tuple (pa_cons (pv 3) pa_nil))) pa_nil)) pa_nil))))), ?_⟩
    have npa : a ≠ p := ne_of ha hp (by intro z; cases z)
    refine ⟨_, rfl, a, true, false, L, pool, rfl, ?_, by omega, hpl, hpl2, wf, fun x H1 s1 hx => ?_⟩
    · exact ⟨ha, hT⟩
    rw [hj] at hx
    obtain rfl : x = .non := hx
    refine ⟨_, rfl, rfl, _, rfl, iteNN rfl ?_⟩
    have hp1 := s1 _ _ hp
    have ha1 := s1 _ _ ha
    refine ⟨_, rfl, p, dx, _, rfl, hp1, rfl, ?_⟩
    refine ⟨_, rfl, a, rfl, ⟨_, SqL.of ha1⟩, fun D hD => ?_⟩
    refine lc_map L (fun q => some (V.ref q.1)) (walk_map _ (fun q : Addr × Rw => V.ref q.1)) hD (small1830 (by omega)) (fun H3 s3 => SqL.of (s3 _ _ ha1)) ?_ ?_
    · rintro j n v H4 H3 Rr N hn s3 ⟨rfl, hx⟩ hR hN
      obtain rfl := map_at hn hx
      exact ⟨rfl, _, rfl, n.1, cells n.2, rfl, .inr ⟨SqT.of (s3 _ _ (s1 _ _ (hT n (List.mem_of_getElem? hn)))), hR _ _ rfl (Same.refl _)⟩⟩
    intro H3 s3 e3
    have eX : L.filterMap (fun q => some (V.ref q.1)) = refs L := by rw [List.filterMap_eq_map'] <;> rfl
    rw [eX] at e3
    have s13 := s1.trans s3
    simp only [tNil]
    refine sort_use e3 (fun q hq => s13 _ _ (hT q hq)) fun l hl2 => ?_
    have s4 := s13.trans (Same.upd (o := .lst (refs (sortL L))) hl2)
    have el : (upd H3 l (.lst (refs (sortL L)))) l = some (.lst (refs (sortL L))) := upd_same
    generalize upd H3 l (.lst (refs (sortL L))) = H4 at s4 el ⊢
    refine ⟨p, dx, l, sortL L, rfl, s4 _ _ hp, el, (fun q hq => s4 _ _ (hT q (sortL_mem.mp hq))), (by unfold sortL; rw [List.length_mergeSort]; exact hl), hTb.ext s4, fun H5 t5 b5 tb5 => ?_⟩
    rw [sortL_rws] at t5
    exact k H5 t5 (fun b o e hb nt => b5 _ _ (s4 _ _ e) hb nt) tb5
end
end KW
end

section
set_option Elab.async false
set_option linter.all false
set_option maxRecDepth 100000
set_option maxHeartbeats 4000000
/-! law. -/
namespace KW
open PySem PySem.Spec PyProof.Rows L2 KR
open FR (Ok Rows lineOf worthOf order forestOf)
theorem cutV_any (xs : List V) (i : Nat) : cutV xs none (some (i : Int)) = xs.take i := by
  by_cases h : i ≤ xs.length
  · exact cutV_pre h
  · unfold cutV
    rw [HT.sIx_none, HT.sIx_nat, List.drop_zero, Nat.sub_zero, Nat.min_eq_right (by omega), List.take_of_length_le (Nat.le_refl _), List.take_of_length_le (by omega)]
theorem kit_self (K : PySem.W.Frag) (a : Addr) : PySem.W.kitOne K (.ref a) (.ref a) = some true := by
  unfold PySem.W.kitOne
  rw [if_pos (by simp)]
theorem Same.butF {w : Addr} {H H1 H2 : Hp} (s : Same H H1) (hw : H w = none) (b : But w H1 H2) : Same H H2 := fun c o e => b _ _ (s _ _ e) (ne_of_none e hw)
theorem row_lay {pool : List Str} {rs : Rows Str} (hp : ∀ n ∈ pool, NameOk n) (w : FR.Wf pool rs) {r : Rw} (hr : r ∈ rs) : (rowD r).canLay0 = true ∧ (rowD r).depth ≤ 60 := by
  have o := w.row r hr
  refine ⟨?_, row_depth r⟩
  simp [rowD, PyData.canLay0, PyData.canLayAll0, name_str (hp _ o.a), name_str (hp _ o.b)]
theorem row_dp {K : PySem.W.Frag} {H : Hp} {L : RL} (hT : Tups H L) : ∀ q ∈ L, Dp K H (V.ref q.1) (rowD q.2) := fun q hq => .tup (SqT.of (hT q hq)) (.cons (.str _) (.cons (.str _) (.cons (.int _) (.cons (.int _) (.cons (.int _) .nil)))))
theorem ne_same {K : PySem.W.Frag} {H : Hp} {a b : Addr} {L M : RL} {Q : VK} (ha : H a = some (.lst (refs L))) (hb : H b = some (.lst (refs M))) (hL : Tups H L) (hM : Tups H M) (e : rws L = rws M) (hs : ∀ r ∈ rws L, (rowD r).canLay0 = true ∧ (rowD r).depth ≤ 60) (q : Q (.bl false) H) : rNeD K (.ref a) (.ref b) H Q := by
  have eL : L.map (fun q => rowD q.2) = (rws L).map rowD := by unfold rws; rw [List.map_map]; rfl
  have eM : M.map (fun q => rowD q.2) = (rws L).map rowD := by rw [e]; unfold rws; rw [List.map_map]; rfl
  have hd : ∀ d ∈ (rws L).map rowD, d.canLay0 = true ∧ d.depth ≤ 60 := fun d hd => by
    obtain ⟨r, hr, rfl⟩ := List.mem_map.mp hd
    exact hs r hr
  have sh := shaped_list _ hd
  refine ⟨.list ((rws L).map rowD), .list ((rws L).map rowD), ?_, ?_, sh, sh, ?_⟩
  · rw [← eL]
    exact .lst (SqL.of ha) (dpAll_map (fun q : Addr × Rw => V.ref q.1) (fun q => rowD q.2) L (row_dp hL))
  · rw [← eM]
    exact .lst (SqL.of hb) (dpAll_map (fun q : Addr × Rw => V.ref q.1) (fun q => rowD q.2) M (row_dp hM))
  · rw [SeqAt.eqv_refl _ (SeqAt.canLay_of_shaped sh)]
    exact q
section
variable {P : Program} {w : World} {K : PySem.W.Frag} {mg : Str → Option Value} {base : Heap}
def spLaw (K : PySem.W.Frag) : Sp := fun vs H Q _ => ∃ (a : Addr) (ns : List Int), vs = [.ref a] ∧ SqL K H a (ns.map V.int) ∧ ns.length ≤ 1000 ∧ LamX.Tabs (TPut K) H ∧ ∀ H', Q (.bl true) H'
abbrev NLw : List Str := ["_law_script", "_law_cell", "_law_well_here", "_law_rows_here", "_law_turn", "_law_due_here", "_law_told", "_law_row"]
theorem ndLw : NLw.Nodup := by decide +kernel
theorem df_of {d : He.DefD} {fd : FuncData} (F : FunD K d.name d.qual d.params d.body d.scope [] [] (He.fAd K d.at_) fd) {N ps : List Str} {k : Nat} {sp : Sp} (S : FnScope N ps d.scope)
    (hb : ∀ (kV doc pm : Value) (an : Option Addr) (cdv ct : Value) (us : List Value), us.length = ps.length → bindArgs (PySem.W.fnOf d.name d.qual d.params d.body d.scope .none kV doc pm an cdv ct) ⟨us, []⟩ = pure (ps.zip us))
    (len : ∀ vs H Q E, sp vs H Q E → vs.length = ps.length)
    (hbody : ∀ (cdv : Value) (A : Around) (outer : List Env) (s : Shared) (H : Hp) (vs : List V) (Q : VK) (E : XK), Room k (A.deeper (envOfC d.qual d.scope s.heap.objs.size (He.fAd K d.at_) cdv)) → sp vs H Q E →
      ∃ t, PSs (cxOf CX0 P w K mg base N d.qual d.scope (He.fAd K d.at_) cdv A outer s H E).nox d.body t ∧ t { nx := fun _ H' => Q .non H', rt := Q } (start N vs) H) : Df P w K mg base (k + 1) d ps sp fd := by
  refine ⟨F.bindsN hb, F.kp, F.ok S len fun cdv A outer s H vs Q E hr h => ?_⟩
  obtain ⟨t, h1, h2⟩ := hbody cdv A outer s H vs Q E hr h
  exact ⟨t, h1.nox, h2⟩
theorem ok_law (T : TX K mg) (TB : LamX.TabB base mg (cPut K) (pPut K)) {fd : FuncData} (F : FunD K dLaw.name dLaw.qual dLaw.params dLaw.body dLaw.scope [] [] (He.fAd K dLaw.at_) fd) : Df P w K mg base 7 dLaw ["_law_script"] (spLaw K) fd := by
  obtain ⟨fdWl, GWl⟩ := ok_well (P := P) (w := w) (base := base) T
  obtain ⟨fdD, GD⟩ := ok_draw (P := P) (w := w) (base := base) T
  obtain ⟨fdO, GO⟩ := ok_one (P := P) (w := w) (base := base) T
  obtain ⟨fdR, GR⟩ := ok_rows (P := P) (w := w) (base := base) T
  obtain ⟨fdP, GP⟩ := ok_pairs (P := P) (w := w) (base := base) T
  obtain ⟨fdM, GM⟩ := ok_mixed (P := P) (w := w) (base := base) T
  obtain ⟨fdS, GS⟩ := ok_spoil (P := P) (w := w) (base := base) T
  obtain ⟨fdU, GU⟩ := ok_due (P := P) (w := w) (base := base) T
  obtain ⟨fdJ, GJ⟩ := ok_judge (P := P) (w := w) (base := base) T
  obtain ⟨fdE, GE⟩ := ok_eq (P := P) (w := w) (base := base) T
  obtain ⟨fdI, GI⟩ := ok_pinit (P := P) (w := w) (base := base) T TB
  obtain ⟨fdF, GF⟩ := ok_forest (P := P) (w := w) (base := base) T
  refine df_of F (N := NLw) ⟨rfl, rfl, rfl, by decide +kernel, rfl, by decide +kernel, by decide +kernel⟩ (fun _ _ _ _ _ _ us hl => match us, hl with | [_], _ => rfl) (fun vs H Q E h => ?_) (fun cdv A outer s H vs Q E hr h => ?_)
  · obtain ⟨a, ns, rfl, _⟩ := h
    rfl
  · obtain ⟨a, ns, rfl, ha, hn, hTb, k⟩ := h
    have hu := hu_of hr
    have hr1 := hr.mono (j := 1) (by decide)
    have hr2 := hr.mono (j := 2) (by decide)
    have hr3 := hr.mono (j := 3) (by decide)
    have hr4 := hr.mono (j := 4) (by decide)
    have hr5 := hr.mono (j := 5) (by decide)
    have hu64 : (A.deeper (envOfC dLaw.qual dLaw.scope s.heap.objs.size (He.fAd K dLaw.at_) cdv)).units + 64 < cLine := by have := hr.un; omega
    refine ⟨_, pss_cons (ps_for PassesOwn.never rfl (pi_list (pe_slice sl_list (pe_op op_catL (pv 0) (pe_lst (pa_cons pe_int pa_nil))) po_none (po_some pe_int))) (pg_name (i := 1) ndLw rfl (Or.inl rfl))
        (pss_cons (ps_set (i := 2) ndLw rfl (Or.inl rfl) (pe_call GWl.ok hr1 rfl (T.gl 13 _ rfl) GWl.kp GWl.b .nil pass0 (pa_cons (pv 1) pa_nil)))
        (pss_cons (ps_set (i := 3) ndLw rfl (Or.inl rfl) (pe_call GM.ok hr2 rfl (T.gl 21 _ rfl) GM.kp GM.b .nil pass0 (pa_cons (pv 2) (pa_cons (pe_call GP.ok hr1 rfl (T.gl 20 _ rfl) GP.kp GP.b .nil pass0 (pa_cons
          (pe_call GR.ok hr4 rfl (T.gl 19 _ rfl) GR.kp GR.b .nil pass0 (pa_cons (pv 2) (pa_cons (pe_call GO.ok hr2 rfl (T.gl 15 _ rfl) GO.kp GO.b .nil pass0 (pa_cons (pv 2) (pa_cons (pe_lst (pa_cons pe_int (pa_cons pe_int (pa_cons pe_int pa_nil)))) pa_nil))) pa_nil))) pa_nil)) pa_nil))))
        (pss_cons (ps_for PassesOwn.never rfl (pi_range1 (by rfl) T.range (pa_cons (pe_op op_mul (pe_call GD.ok hr1 rfl (T.gl 14 _ rfl) GD.kp GD.b .nil pass0 (pa_cons (pv 2) (pa_cons pe_int pa_nil)))
            (pe_callTy call_int1 (by rfl) T.int boot_int (pa_cons (pe_cmpR (op_neD hu64) (pv 3) (pe_lst pa_nil) (nomark _)) pa_nil))) pa_nil)) (pg_name (i := 4) ndLw rfl (Or.inl rfl))
          (pss_one (ps_expr (pe_call GS.ok hr4 rfl (T.gl 28 _ rfl) GS.kp GS.b .nil pass0 (pa_cons (pv 2) (pa_cons (pv 3) pa_nil))))))
        (pss_cons (ps_par (i := 5) (j := 6) rfl ndLw rfl rfl (by decide) rfl rfl (pa_cons (pe_call GU.ok hr4 rfl (T.gl 27 _ rfl) GU.kp GU.b .nil pass0 (pa_cons (pv 3) pa_nil)) (pa_cons (pe_call GJ.ok hr4 rfl (T.gl 11 _ rfl) GJ.kp GJ.b .nil pass0 (pa_cons (pv 3) pa_nil)) pa_nil)) (by rfl))
        (pss_cons (ps_if (pt_cmpR (op_either (op_neOwn GE.ok T.Fne GE.b pass0 hr3) op_ne) (pv 6) (pe_call GJ.ok hr4 rfl (T.gl 11 _ rfl) GJ.kp GJ.b .nil pass0 (pa_cons (pe_callTy call_tuple_of (by rfl) T.tuple boot_tuple (pa_cons
            (pe_lc (own := [("_law_row", 7)]) (g := gName 7) (tt := tYes) rfl ndLw (pi_list (pv 3)) (blkOk_by (N := NLw) (sc := dLaw.scope) (by decide +kernel)) (fun _ _ _ _ _ => pg_name (i := 7) ndLw rfl (Or.inl rfl)) (fun _ _ _ _ _ => pts_nil)
              (fun _ _ _ _ _ => pe_callTy (call_listK K rfl) (by rfl) T.list boot_list (pa_cons (pv 7) pa_nil))) pa_nil)) pa_nil)) (nomark _)) (pss_one (ps_ret pe_bl)) pss_nil)
        (pss_one (ps_if (pt_cmpR op_isN (pv 5) pe_non (nomark _))
          (pss_one (ps_if (PW.pt (pw_or (pt_cmpR op_notN (pv 6) pe_non (nomark _)) (pw_or1 (pt_cmpR (op_neD hu64)
              (pe_call GP.ok hr1 rfl (T.gl 20 _ rfl) GP.kp GP.b .nil pass0 (pa_cons (pe_fld (pe_meth0 (pe_make T.kT GI.ok hr rfl (T.gl 5 _ rfl) GI.b .nil pass0 (pa_cons (pv 3) pa_nil)) T.cT T.mTforest GF.ok hr GF.b .nil pass0) rfl) pa_nil))
              (pe_callB (cr_sortD hu64) (by rfl) T.sorted (by decide +kernel) (pa_cons (pv 3) pa_nil)) (nomark _))))) (pss_one (ps_ret pe_bl)) pss_nil))
          (pss_one (ps_if (PW.pt (pw_or (pt_not (pt_val (pe_callB call_isi (by rfl) T.isi PyProof.Rows.boot_isinstance (pa_cons (pv 6) (pa_cons (pe_glob rfl (T.gl 1 _ rfl) (v := .ref (He.ga K "Fault")) rfl) pa_nil)))))
              (pw_or1 (pt_cmpR (op_neD hu64) (pe_tup (pa_cons (pe_fld (pv 6) rfl) (pa_cons (pe_fld (pv 6) rfl) pa_nil))) (pv 5) (nomark _))))) (pss_one (ps_ret pe_bl)) pss_nil))))))))))
      (pss_one (ps_ret pe_bl)), ?_⟩
    refine ⟨_, rfl, (by show 1 ≤ sizeLine; decide), fun z hz => ?_⟩
    have s1 : Same H (upd H z (.lst [.int 0])) := Same.upd hz
    refine ⟨a, z, ns.map V.int, [.int 0], rfl, rfl, ha.ext s1, SqL.of upd_same, (by rw [List.length_map]; exact small1830 (by omega)), fun c hc => ?_⟩
    have s2 := s1.trans (Same.upd (o := .lst (ns.map V.int ++ [V.int 0])) hc)
    have ec : (upd (upd H z (.lst [.int 0])) c (.lst (ns.map V.int ++ [V.int 0]))) c = some (.lst ((ns ++ [0]).map V.int)) := by rw [upd_same, List.map_append]; rfl
    generalize upd (upd H z (.lst [.int 0])) c (.lst (ns.map V.int ++ [V.int 0])) = H2 at s2 ec ⊢
    refine ⟨_, rfl, c, _, rfl, SqL.of ec, fun d hd => ?_⟩
    generalize hcs : (ns ++ [0]).take 6 = cs
    have hcl : cs.length ≤ 6 := by rw [← hcs, List.length_take]; omega
    have s3 := s2.trans (Same.upd (o := .lst (cutV ((ns ++ [0]).map V.int) none (some 6))) hd)
    have ed : (upd H2 d (.lst (cutV ((ns ++ [0]).map V.int) none (some 6)))) d = some (.lst (cs.map V.int)) := by
      have := cutV_any ((ns ++ [0]).map V.int) 6
      rw [upd_same, ← hcs, List.map_take]
      exact congrArg (fun z => some (HO.lst z)) this
    generalize upd H2 d (.lst (cutV ((ns ++ [0]).map V.int) none (some 6))) = H3 at s3 ed ⊢
    refine ⟨d, rfl, ⟨_, SqL.of ed⟩, for_it (walk_map (K := K) (a := d) cs V.int) (fun i σ H' => (∃ v1 v2 v3 v4 v5 v6 v7, σ = [some (.ref a), v1, v2, v3, v4, v5, v6, v7]) ∧ H' d = some (.lst (cs.map V.int)) ∧ LamX.Tabs (TPut K) H')
      ⟨⟨_, _, _, _, _, _, _, rfl⟩, ed, hTb.ext s3⟩ (fun i σ H' _ h => SqL.of h.2.1) ?_ ?_⟩
    · rintro i x σ H4' H4 hi ⟨⟨v1, v2, v3, v4, v5, v6, v7, rfl⟩, ed4, tb4⟩ ⟨rfl, hx⟩
      obtain ⟨cv, hcv⟩ : ∃ cv, cs[i]? = some cv := ⟨_, List.getElem?_eq_getElem hi⟩
      obtain rfl := map_at hcv hx
      refine ⟨_, rfl, cv, rfl, fun wl H5 hwl s5 W5 => ?_⟩
      have hwn : ∀ b o, H4 b = some o → b ≠ wl := fun b o e => ne_of_none e hwl
      refine ⟨_, rfl, _, rfl, _, rfl, (by show 3 ≤ sizeLine; decide), fun z hz => ?_⟩
      have s6 : Same H5 (upd H5 z (.lst [.int 2, .int 4, .int 7])) := Same.upd hz
      have ez : (upd H5 z (.lst [.int 2, .int 4, .int 7])) z = some (.lst [.int 2, .int 4, .int 7]) := upd_same
      have nzw : z ≠ wl := by
        obtain ⟨_, _, _, e, _⟩ := W5
        exact (ne_of_none e hz).symm
      have W6 := W5.same s6
      have q6 := s5.trans s6
      generalize upd H5 z (.lst [.int 2, .int 4, .int 7]) = H6 at s6 ez W6 q6 ⊢
      refine ⟨wl, 0, W6, by omega, .inl ⟨z, _, rfl, ez, nzw, (by decide), (by decide), fun j v H7 hv W7 b7 => ?_⟩⟩
      obtain ⟨mo, rfl, hmo⟩ : ∃ mo : Nat, v = .int (mo : Nat) ∧ mo ≤ 7 := by
        match j, hv with
        | 0, hv => cases hv; exact ⟨2, rfl, by decide⟩
        | 1, hv => cases hv; exact ⟨4, rfl, by decide⟩
        | 2, hv => cases hv; exact ⟨7, rfl, by decide⟩
        | j + 3, hv => cases hv
      have q7 := Same.butF q6 hwl b7
      refine ⟨wl, 1, mo, rfl, W7, by omega, hmo, fun ar X H8 har eX tX fX W8 b8 => ?_⟩
      have q8 := Same.butF q7 hwl b8
      refine ⟨ar, true, X, rfl, eX, tX, ⟨by have := fX.len; omega, fX.nd, fX.vl, fX.lv⟩, fun cp M H9 hcp ecp tM rM s9 => ?_⟩
      have q9 := q8.trans s9
      have W9 := W8.same s9
      have hl60 : (xrs X).length ≤ 60 := by have := fX.len; omega
      have wf0 : FR.Wf ((xrs X).map (·.1)) (FR.pairsOf (xrs X)) := FR.pairs_wf hl60 fX.nd fX.vl fX.lv
      have pl0 := FR.pairs_len fX.len fX.nd fX.vl fX.lv
      generalize hpool : (xrs X).map (·.1) = pool at wf0
      have hpn : ∀ n ∈ pool, NameOk n := fun n hn => by
        rw [← hpool] at hn
        obtain ⟨y, hy, rfl⟩ := List.mem_map.mp hn
        exact fX.nm y hy
      have hpl : pool.length ≤ 60 := by rw [← hpool, List.length_map]; exact hl60
      have wfM : FR.Wf pool (rws M) := by
        rw [rM]
        exact wf0.perm (List.mergeSort_perm _ _).symm
      have lM : M.length ≤ 49 := by
        rw [← rws_len, rM, List.length_mergeSort]
        exact pl0
      refine ⟨wl, cp, 301, M, rfl, W9, by omega, ecp, by omega, fun cm M2 H10 hcm ecm pm W10 b10 => ?_⟩
      have q10 := Same.butF q9 hwl b10
      have tM2 : Tups H10 M2 := fun q hq => b10 _ _ (tM q (pm.mem_iff.mp hq)) (fun z => by
        obtain ⟨_, _, _, e, _⟩ := W9
        have := tM q (pm.mem_iff.mp hq)
        rw [z, e] at this
        cases this)
      have wfM2 : FR.Wf pool (rws M2) := wfM.perm (by unfold rws; exact (pm.map _).symm)
      have lM2 : M2.length ≤ 49 := by rw [pm.length_eq]; exact lM
      have ncw : cm ≠ wl := by
        obtain ⟨_, _, _, e, _⟩ := W9
        exact (ne_of_none e hcm).symm
      have hcn : ∀ b o, H4 b = some o → b ≠ cm := fun b o e => ne_of_none (q9 _ _ e) hcm
      -- the spoiling
      refine ⟨_, rfl, wl, 4, 301 + M.length, rfl, W10, by omega, by decide, by decide, fun r H11 r0 r1 W11 b11 => ?_⟩
      refine ⟨_, rfl, (by show 0 ≤ sizeLine; decide), fun z2 hz2 => ?_⟩
      have s12 : Same H11 (upd H11 z2 (.lst [])) := Same.upd hz2
      have ez2 : (upd H11 z2 (.lst [])) z2 = some (.lst []) := upd_same
      have q12 := (Same.butF q10 hwl b11).trans s12
      have W12 := W11.same s12
      generalize upd H11 z2 (.lst []) = H12 at s12 ez2 q12 W12 ⊢
      have ecm12 := s12 _ _ (b11 _ _ ecm ncw)
      have tM12 : Tups H12 M2 := fun q hq => s12 _ _ (b11 _ _ (tM2 q hq) (fun z => by
        obtain ⟨_, _, _, e, _⟩ := W10
        have := tM2 q hq
        rw [z, e] at this
        cases this))
      refine ne_nil (f := fun q : Addr × Rw => V.ref q.1) (g := fun q => rowD q.2) ecm12 ez2 (row_dp tM12) (fun q hq => row_lay hpn wfM2 (mem_rws hq)) (.inr ⟨_, rfl, _, _, rfl, rfl, .inl ⟨by omega, by omega⟩, ?_⟩)
      obtain ⟨t, ht, ht3, ht0⟩ : ∃ t : Nat, r * (if (!M2.isEmpty) = true then 1 else 0) = (t : Int) ∧ t ≤ 3 ∧ (M2 = [] → t = 0) := by
        cases M2 with
        | nil => exact ⟨0, by simp, by omega, fun _ => rfl⟩
        | cons y ys => exact ⟨r.toNat, by simp; omega, by omega, fun z => by cases z⟩
      refine ⟨(t : Int), congrArg (fun z => [V.int z]) ht, by omega, by omega, ?_⟩
      refine for_range (lo := 0) (n := t) (fun j σ H' => (∃ v4, σ = [some (.ref a), some (.int cv), some (.ref wl), some (.ref cm), v4, v5, v6, v7]) ∧ Same H4 H' ∧ WellAt H' wl (302 + M.length + 10 * j) ∧ ∃ M3 : RL, H' cm = some (.lst (refs M3)) ∧ Tups H' M3 ∧ FR.Wf pool (rws M3) ∧ M3.length ≤ 49 + j ∧ (M2 ≠ [] → 0 < M3.length))
        ⟨⟨_, rfl⟩, q12, W12.mono (by omega), M2, ecm12, tM12, wfM2, by omega, fun h => List.length_pos_iff.mpr h⟩ ?_ ?_
      · rintro j σ H13 hj ⟨⟨v4', rfl⟩, q13, W13, M3, e13, t13, wf13, l13, n13⟩
        have hne : M2 ≠ [] := fun z => by have := ht0 z; omega
        refine ⟨_, rfl, _, rfl, wl, cm, 302 + M.length + 10 * j, M3, pool, rfl, W13, by omega, ncw, e13, t13, n13 hne, by omega, hpn, wf13, fun M4 H14 e14 t14 p14 l14 wf14 W14 b14 => ?_⟩
        exact ⟨⟨_, rfl⟩, fun b o e => b14 _ _ (q13 _ _ e) (hwn _ _ e) (hcn _ _ e), W14.mono (by omega), M4, e14, t14, wf14, by omega, fun _ => p14⟩
      rintro σ H13 ⟨⟨v4', rfl⟩, q13, W13, M3, e13, t13, wf13, l13, _⟩
      have ok3 := wf13.ok
      have hjd := FR.judged_due ok3
      have nm13 : ∀ r ∈ rws M3, NameOk r.a := fun r hr => hpn _ (wf13.row r hr).a
      -- due, told
      refine ⟨_, rfl, cm, M3, rfl, ⟨e13, t13, by omega, nm13⟩, fun xd H14 s14 hxd => ?_⟩
      have e14 := s14 _ _ e13
      have t14 := t13.same s14
      refine ⟨_, rfl, cm, true, false, M3, pool, rfl, ⟨e14, t14⟩, by omega, hpn, hpl, wf13, fun xt H15 s15 hxt => ⟨_, _, rfl, ?_⟩⟩
      have e15 := s15 _ _ e14
      have t15 := t14.same s15
      have q15 := q13.trans (s14.trans s15)
      rw [hjd] at hxt
      -- told again
      refine ⟨_, rfl, _, rfl, cm, rfl, ⟨_, SqL.of e15⟩, fun D hD => ?_⟩
      refine lc_it (walk_map (K := K) (a := cm) M3 (fun q : Addr × Rw => V.ref q.1)) (fun i H' => Same H15 H' ∧ ∃ N : RL, H' D = some (.lst (refs N)) ∧ (∀ q ∈ N, H' q.1 = some (.lst (cells q.2))) ∧ rws N = (rws M3).take i)
        ⟨Same.upd hD, [], upd_same, (fun q hq => absurd hq (by simp)), rfl⟩ (fun i H' _ h => SqL.of (h.1 _ _ e15)) ?_ ?_
      · rintro i x H17 H16 hi ⟨s16, N, eD, tN, eN⟩ ⟨rfl, hx⟩
        obtain ⟨q, hq⟩ : ∃ q, M3[i]? = some q := ⟨_, List.getElem?_eq_getElem hi⟩
        obtain rfl := map_at hq hx
        have hrow := s16 _ _ (t15 q (List.mem_of_getElem? hq))
        refine ⟨rfl, _, rfl, q.1, cells q.2, rfl, .inr (SqT.of hrow), fun l hl => ?_⟩
        have sl : Same H16 (upd H16 l (.lst (cells q.2))) := Same.upd hl
        have el : (upd H16 l (.lst (cells q.2))) l = some (.lst (cells q.2)) := upd_same
        generalize upd H16 l (.lst (cells q.2)) = H18 at sl el ⊢
        have eD2 := sl _ _ eD
        have nlD : l ≠ D := fun z => by
          rw [z, eD] at hl
          cases hl
        have lN : N.length ≤ i := by
          have := congrArg List.length eN
          rw [rws_len, List.length_take] at this
          omega
        have tND : ∀ q ∈ N, q.1 ≠ D := fun q hq z => by
          have h1 := tN q hq
          rw [z, eD] at h1
          have h2 : refs N = cells q.2 := by injection (Option.some.inj h1)
          unfold refs at h2
          match N, hq, h2 with
          | y :: ys, _, h2 => cases (List.cons.inj h2).1
        refine ⟨_, eD2, by rw [refs_len]; exact Nat.lt_of_le_of_lt (Nat.le_refl _) (small1830 (by omega)), fun b o e => ?_, N ++ [(l, q.2)], ?_, ?_, ?_⟩
        · rw [upd_ne (ne_of_none e hD)]
          exact sl _ _ (s16 _ _ e)
        · rw [upd_same]
          simp [refs]
        · intro y hy
          rcases List.mem_append.mp hy with e | e
          · rw [upd_ne (tND y e)]
            exact sl _ _ (tN y e)
          · rw [List.mem_singleton.mp e, upd_ne nlD]
            exact el
        · rw [FR.take_snoc (show (rws M3)[i]? = some q.2 by unfold rws; rw [List.getElem?_map, hq]; rfl), ← eN]
          simp [rws]
      rintro H16 ⟨s16, N, eD, tN, eN⟩
      rw [show M3.length = (rws M3).length from (rws_len M3).symm, List.take_length] at eN
      refine ⟨D, _, rfl, .inl ⟨SqL.of eD, fun tp htp => ?_⟩⟩
      have s17 : Same H16 (upd H16 tp (.tup (refs N))) := Same.upd htp
      have e17 : (upd H16 tp (.tup (refs N))) tp = some (.tup (refs N)) := upd_same
      generalize upd H16 tp (.tup (refs N)) = H17 at s17 e17 ⊢
      have lN : N.length ≤ 60 := by
        have := congrArg List.length eN
        rw [rws_len, rws_len] at this
        omega
      refine ⟨tp, false, true, N, pool, rfl, ⟨e17, fun q hq => s17 _ _ (tN q hq)⟩, by omega, hpn, hpl, by rw [eN]; exact wf13, fun xj H18 s18 hxj => ?_⟩
      rw [eN, hjd] at hxj
      have s1518 := s16.trans (s17.trans s18)
      have e18 := s1518 _ _ e15
      have t18 := t15.same s1518
      have q18 := q15.trans s1518
      cases hdue : FR.due (rws M3) with
      | none =>
        rw [hdue] at hxd hxt hxj
        obtain rfl : xd = .non := hxd
        obtain rfl : xt = .non := hxt
        obtain rfl : xj = .non := hxj
        have G : FR.Good (rws M3) := FR.Good.of ok3 hdue
        have hjn : FR.judged (rws M3) = none := hjd.trans hdue
        have l3 : M3.length ≤ 60 := by omega
        refine .inr ⟨rfl, _, rfl, iteNN rfl ?_⟩
        refine ⟨_, rfl, rfl, _, rfl, iteP rfl ?_⟩
        refine ⟨_, rfl, rfl, _, rfl, iteNN rfl ?_⟩
        generalize hms : (rws M3).mergeSort leR = ms
        have pms : ms.Perm (rws M3) := by rw [← hms]; exact List.mergeSort_perm _ _
        have wfm : FR.Wf pool ms := wf13.perm pms.symm
        have Gm : FR.Good ms := FR.Good.perm ok3 hdue pms.symm wfm.ok
        have lms : ms.length ≤ 60 := by rw [pms.length_eq, rws_len]; exact l3
        have fo := FR.forest_ok wfm Gm
        have FN : FNm (forestOf ms) := ⟨⟨Nat.le_trans fo.len hpl, fo.nd, fo.vl, fo.lev⟩, fun y hy => hpn _ (fo.nm y hy)⟩
        have eSort : (FR.pairsOf (forestOf ms)).mergeSort leR = ms := by
          rw [← hms]
          rw [hms]
          rw [sort_perm ((FR.pairs_perm Gm lms).trans pms), hms]
        refine ⟨_, rfl, ?_⟩
        intro p dx np ndx nep
        have sm : Same H18 (upd (upd H18 dx (.own p)) p (.ins (He.ga K "PairTable") dx [])) := fun b o e => by rw [upd_ne (ne_of_none e np), upd_ne (ne_of_none e ndx)]; exact e
        refine ⟨p, dx, cm, M3, pool, rfl, upd_same, sm _ _ e18, t18.same sm, l3, hpn, hpl, wf13, hjn, tb4.ext (q18.trans sm), fun H20 T20 b20 tb20 => ⟨rfl, ?_⟩⟩
        rw [hms] at T20
        have k20 : ∀ b o, H18 b = some o → (∀ ps, o ≠ .tbl ps) → H20 b = some o := fun b o e nt => b20 _ _ (sm _ _ e) (ne_of_none e np) nt
        obtain ⟨dxp, tr, bp, dl, oo, hp20, _, _⟩ := id T20
        refine ⟨p, dxp, _, rfl, hp20, rfl, p, ms, rfl, T20, lms, FN, fun xf X2 H21 FA XT eX2 s21 => ?_⟩
        obtain ⟨dx2, tr2, o2, sp2, h2, ht2⟩ := FA
        refine ⟨xf, _, dx2, _, _, rfl, h2, T.cO, T.Orows, rfl, tr2, false, X2, rfl, ht2, XT, by rw [eX2]; exact FN.f, fun cp2 M5 H22 hcp2 ecp2 tM5 rM5 s22 => ?_⟩
        have k22 : ∀ b o, H18 b = some o → (∀ ps, o ≠ .tbl ps) → H22 b = some o := fun b o e nt => s22 _ _ (s21 _ _ (k20 _ _ e nt))
        have e22 := k22 _ _ e18 (fun ps z => by cases z)
        have t22 : Tups H22 M3 := fun q hq => k22 _ _ (t18 q hq) (fun ps z => by cases z)
        refine ⟨_, rfl, ?_⟩
        simp only [tNil]
        refine sort_use e22 t22 fun l hl => ?_
        have s23 : Same H22 (upd H22 l (.lst (refs (sortL M3)))) := Same.upd hl
        have e23 : (upd H22 l (.lst (refs (sortL M3)))) l = some (.lst (refs (sortL M3))) := upd_same
        generalize upd H22 l (.lst (refs (sortL M3))) = H23 at s23 e23 ⊢
        have rM5' : rws M5 = ms := by rw [rM5, eX2]; exact eSort
        refine ne_same (s23 _ _ ecp2) e23 (tM5.same s23) (fun q hq => s23 _ _ (t22 q (sortL_mem.mp hq))) (by rw [rM5', sortL_rws, hms]) (fun r hr => row_lay hpn wfm (by rw [← rM5']; exact hr)) ⟨_, rfl, iteF ⟨⟨_, _, _, _, _, _, _, rfl⟩, s23 _ _ (k22 _ _ (q18 _ _ ed4) (fun ps z => by cases z)), (tb20.ext s21).ext (s22.trans s23)⟩⟩
      | some iw =>
        obtain ⟨pl, wd⟩ := iw
        rw [hdue] at hxd hxt hxj
        obtain ⟨tu, rfl, etu⟩ := hxd
        obtain ⟨f1, rfl, F1⟩ := hxt
        obtain ⟨f2, rfl, F2⟩ := hxj
        have F1' := F1.same s1518
        obtain ⟨dx1, g1⟩ := id F1'
        obtain ⟨dx2, g2⟩ := id F2
        refine .inl ⟨⟨f1, f2, dx1, dx2, _, _, rfl, rfl, g1, g2, (pl : Nat), wordOf wd, wordOf_ok wd, F1', F2⟩, fun H19 x19 => ?_⟩
        refine ⟨_, rfl, iteF ?_⟩
        have q19 : Same H4 H19 := q18.trans x19
        have g19 := x19 _ _ g1
        have etu19 := x19 _ _ (s1518 _ _ (s15 _ _ etu))
        refine ⟨_, rfl, rfl, _, rfl, iteN (by intro z; cases z) ?_⟩
        refine ⟨_, rfl, _, _, _, _, true, rfl, .own _, .base (.ins g19 T.cF T.Fa T.Fn T.Ft T.Fm), kit_self _ _, true, rfl, ?_⟩
        refine iteF ?_
        refine ⟨_, rfl, f1, _, dx1, _, _, rfl, g19, T.cF, T.Fplace, rfl, _, rfl, f1, _, dx1, _, _, rfl, g19, T.cF, T.Fword, rfl, (by show 2 ≤ sizeLine; decide), fun t2 ht2 => ?_⟩
        have s20 : Same H19 (upd H19 t2 (.tup [.int (pl : Nat), .str (wordOf wd)])) := Same.upd ht2
        have e20 : (upd H19 t2 (.tup [.int (pl : Nat), .str (wordOf wd)])) t2 = some (.tup [.int (pl : Nat), .str (wordOf wd)]) := upd_same
        generalize upd H19 t2 (.tup [.int (pl : Nat), .str (wordOf wd)]) = H20 at s20 e20 ⊢
        have sh := sh2 (pl : Nat) (wordOf wd) (wordOf_ok wd)
        refine ⟨_, rfl, .tuple [.int (pl : Nat), .str (wordOf wd)], .tuple [.int (pl : Nat), .str (wordOf wd)], .tup (SqT.of e20) (.cons (.int _) (.cons (.str _) .nil)), .tup (SqT.of (s20 _ _ etu19)) (.cons (.int _) (.cons (.str _) .nil)), sh, sh, ?_⟩
        rw [SeqAt.eqv_refl _ (SeqAt.canLay_of_shaped sh)]
        exact ⟨_, rfl, iteF ⟨⟨_, _, _, _, _, _, _, rfl⟩, s20 _ _ (q19 _ _ ed4), tb4.ext (q19.trans s20)⟩⟩
    · rintro σ H4 ⟨⟨v1, v2, v3, v4, v5, v6, v7, rfl⟩, _, _⟩
      exact k _
end
end KW
end

section
set_option Elab.async false
set_option linter.all false
set_option maxRecDepth 100000
set_option maxHeartbeats 0
/-! The head. -/
namespace KW
open PySem PySem.Spec PyProof.Rows L2 KR
def noats : List (Str × Str) := [("Fault", "place"), ("Fault", "word"), ("PairJudge", "rows"), ("PairJudge", "steps"), ("PairJudge", "uppers"), ("PairJudge", "first_ranks"), ("PairJudge", "first_values"), ("PairJudge", "selves"), ("PairJudge", "spots"),
  ("PairTable", "rows"), ("PairTable", "by_pair"), ("PairTable", "lines"), ("PairTable", "order"), ("Forest", "rows"), ("Forest", "order"), ("Forest", "spots")]
def meths : List (Str × Str) := [("Fault", "class_name"), ("Fault", "facts"), ("PairJudge", "first_upper"), ("PairJudge", "is_self_missing"), ("PairJudge", "is_line_broken"), ("PairJudge", "is_gap"), ("PairJudge", "is_rank_other"), ("PairJudge", "is_value_other"), ("PairJudge", "is_order_broken"), ("PairJudge", "fault"),
  ("PairTable", "put_rows"), ("PairTable", "names"), ("PairTable", "worth"), ("PairTable", "line_to")]
def clss : List Str := ["Fault", "PairJudge", "PairTable", "Forest"]
def consts : List He.Fa := [.str "LETTERS" "abcdefghijklmnopqrstuvwxyz", .str "SIGNS" "abcdefghijklmnopqrstuvwxyz0123456789", .int "MOST_SIGNS" 8, .int "MOST_VALUE" 1000000000000000000000000000000, .int "MOST_ROWS" 60, .int "MOST_PAIRS" 1830]
def fas : List He.Fa := globs.map .glo ++ (frees.map .free ++ (consts ++ (clss.map .cls ++ (clss.map .mkr ++ (noats.map (fun q => .noat q.1 q.2) ++ meths.map fun q => .meth q.1 q.2)))))
def exB (K : PySem.W.Frag) : Bool :=
  He.eqO (PySem.W.findIn K (.ref (He.ga K "Fault")) "__class__") (some (some (.builtin "object.__class__"))) &&
  (He.eqO (PySem.W.specialIn K (.builtin "object.__class__") "__get__") (some (some (.builtin "getset_descriptor.__get__"))) &&
  (decide (PySem.W.takesIn K (.builtin "object.__class__") = some true) &&
  (decide (PySem.W.mroIn K (He.ga K "Fault") (.type "object") = some true) &&
  (decide (PySem.W.kitOne K (.ref (He.ga K "Fault")) (.ref (He.ga K "Thing")) = some true) &&
  (He.eqO (PySem.W.findIn K (.ref (He.ga K "Fault")) "__eq__") (some (some (.ref (He.ma K (He.ga K "Thing") "__eq__")))) &&
  (PySem.W.isFn K (.ref (He.ma K (He.ga K "Thing") "__eq__")) &&
  (He.eqO (PySem.W.findIn K (.ref (He.ga K "Fault")) "__ne__") (some (some (.builtin "object.__ne__"))) &&
  (He.eqO (PySem.W.findIn K (.ref (He.ga K "PairTable")) "forest") (some (some (.ref (He.ma K (He.ga K "Table") "forest")))) &&
  (PySem.W.isFn K (.ref (He.ma K (He.ga K "Table") "forest")) &&
  (PySem.W.keepIn K (.ref (He.ma K (He.ga K "Table") "forest")) &&
  (PySem.W.readsIn K (He.ga K "Forest") (.type "type") &&
  (He.eqO (PySem.W.specialIn K (.ref (He.ga K "Forest")) "__getattribute__") (some (some (.builtin "type.__getattribute__"))) &&
  (match PySem.W.findCls K (.ref (He.ga K "Forest")) (.type "type") "MOST" with
    | some (.val u) => He.relB (.int 60) u
    | _ => false)))))))))))))
abbrev tfs : List He.Defn := [dPPut.at_]
abbrev lawRow : PySem.W.OpenRow := PySem.W.OpenLaw.row PySem.Challenge.rw_forestrows_k22_whole_pair_rows_judged
/-- the addresses that are told of, the model's statics too -/
def asS (g : Addr → Option Obj) : List Addr := He.asD g 4 ++ [cStatics]
def obsS (g : Addr → Option Obj) : He.AlX := (He.obsT fas fns [] (He.frT g (asS g)), exB (He.frT g (asS g)) && He.tabsB g tfs (He.frT g (asS g)))
theorem says_of {w : World} {h : Heap} (e : obsS h.get? = He.valX fns [] w) : He.SaysX fas fns [] tfs exB w h (He.frT h.get? (asS h.get?)) := by
  generalize hK : He.frT h.get? (asS h.get?) = K
  have e1 : He.obsT fas fns [] K = He.valT fns [] w := by rw [← hK]; exact congrArg (fun z : He.AlX => z.1) e
  have e2 : (exB K && He.tabsB h.get? tfs K) = true := by rw [← hK]; exact congrArg (fun z : He.AlX => z.2) e
  obtain ⟨h1, h2⟩ := He.ba e2
  have key : ∀ p ∈ tfs, PySem.W.codeHdIn K (He.cT K p).1 (He.cT K p).2 = true ∧ ∃ o, h.get? (He.cT K p).2 = some o ∧ He.emptyTab o = true := fun p hp => by
    obtain ⟨h3, h4⟩ := He.ba (List.all_eq_true.mp h2 p hp)
    refine ⟨h3, ?_⟩
    split at h4
    · exact ⟨_, by assumption, h4⟩
    · cases h4
  refine ⟨e1, h1, fun p hp => (key p hp).1, fun p hp => ?_, fun p hp => ?_⟩
  · obtain ⟨_, o, q, z⟩ := key p hp
    rw [← hK] at q ⊢
    exact He.frT_none q z
  · obtain ⟨_, o, q, z⟩ := key p hp
    rw [q, He.emptyTab_eq z]
def hk : PySem.W.Hook where
  α := He.AlX
  obs := fun s => obsS s.heap.get?
  val := fun w => He.valX fns [] w
  says := fun w h => ∃ K : PySem.W.Frag, K.In h ∧ He.SaysX fas fns [] tfs exB w h K
  of := fun _ _ e => ⟨_, He.frT_in, says_of e⟩
  keeps := fun _ _ _ ⟨K, hK, c⟩ k => ⟨K, PySem.W.Frag.In.keeps hK k, ⟨c.t, c.more, c.hd, c.out, fun p hp => k _ _ (c.empty p hp)⟩⟩
def ob (s : PySem.W.SharedT) : He.AlX := obsS (HandSHeadRun.getT s)
theorem ob_eq (s : PySem.W.SharedT) : ob s = hk.obs s.abs := congrArg obsS (funext (HandSHeadRun.getT_eq s))
section
variable {K : PySem.W.Frag} {h : Heap} {mg : Str → Option Value} {w : World}
theorem mem_glo {x : Str} (hx : x ∈ globs) : He.Fa.glo x ∈ fas := List.mem_append_left _ (List.mem_map.mpr ⟨x, hx, rfl⟩)
theorem mem_free {x : Str} (hx : x ∈ frees) : He.Fa.free x ∈ fas := List.mem_append_right _ (List.mem_append_left _ (List.mem_map.mpr ⟨x, hx, rfl⟩))
theorem mem_const {f : He.Fa} (hx : f ∈ consts) : f ∈ fas := List.mem_append_right _ (List.mem_append_right _ (List.mem_append_left _ hx))
theorem mem_cls {x : Str} (hx : x ∈ clss) : He.Fa.cls x ∈ fas := List.mem_append_right _ (List.mem_append_right _ (List.mem_append_right _ (List.mem_append_left _ (List.mem_map.mpr ⟨x, hx, rfl⟩))))
theorem mem_mkr {x : Str} (hx : x ∈ clss) : He.Fa.mkr x ∈ fas := List.mem_append_right _ (List.mem_append_right _ (List.mem_append_right _ (List.mem_append_right _ (List.mem_append_left _ (List.mem_map.mpr ⟨x, hx, rfl⟩)))))
theorem mem_noat {q : Str × Str} (hx : q ∈ noats) : He.Fa.noat q.1 q.2 ∈ fas := List.mem_append_right _ (List.mem_append_right _ (List.mem_append_right _ (List.mem_append_right _ (List.mem_append_right _ (List.mem_append_left _ (List.mem_map.mpr ⟨q, hx, rfl⟩))))))
theorem mem_meth {q : Str × Str} (hx : q ∈ meths) : He.Fa.meth q.1 q.2 ∈ fas := List.mem_append_right _ (List.mem_append_right _ (List.mem_append_right _ (List.mem_append_right _ (List.mem_append_right _ (List.mem_append_right _ (List.mem_map.mpr ⟨q, hx, rfl⟩))))))
theorem at_mem {α : Type} {l : List α} {x : α} (i : Nat) (h : l[i]? = some x) : x ∈ l := List.mem_of_getElem? h
theorem dk_nil : ∀ (i : Nat) {d : He.DefD}, fns[i]? = some d → d.dvs K = [] ∧ d.kws K = [] := fun i d hd => by
  have key : ∀ d ∈ fns, d.dfl = [] ∧ d.kwd = [] := by
    intro d hd
    simp only [fns, List.mem_cons, List.not_mem_nil, or_false] at hd
    rcases hd with h | h | h | h | h | h | h | h | h | h | h | h | h | h | h | h | h | h | h | h | h | h | h | h | h | h | h | h | h | h | h | h | h | h | h | h | h | h | h | h | h | h | h | h <;> subst h <;> exact ⟨rfl, rfl⟩
  obtain ⟨h1, h2⟩ := key d (List.mem_of_getElem? hd)
  exact ⟨by show d.dfl.map _ = []; rw [h1]; rfl, by show d.kwd.map _ = []; rw [h2]; rfl⟩
theorem tx_of (X : K.In h) (G : h.Ns mainGlobals mg) (c : He.SaysD fas fns K) (m : exB K = true) : TX K mg := by
  have fr : ∀ (i : Nat) (x : Str), frees[i]? = some x → mg x = none := fun i x e => He.free_ok X G (c.facts (mem_free (at_mem i e)))
  have cl : ∀ (i : Nat) (x : Str), clss[i]? = some x → Cls K (He.ga K x) := fun i x e => He.cls_ok (c.facts (mem_cls (at_mem i e)))
  have mk : ∀ (i : Nat) (x : Str), clss[i]? = some x → Mk K (He.ga K x) (He.ma K (He.ga K x) "__init__") := fun i x e => He.mkr_ok (c.facts (mem_mkr (at_mem i e)))
  have na : ∀ (i : Nat) (q : Str × Str), noats[i]? = some q → NoAttr K (He.ga K q.1) q.2 := fun i q e => He.noat_ok (c.facts (mem_noat (at_mem i e)))
  have me : ∀ (i : Nat) (q : Str × Str), meths[i]? = some q → Meth K (He.ga K q.1) q.2 (He.ma K (He.ga K q.1) q.2) := fun i q e => He.meth_ok (c.facts (mem_meth (at_mem i e)))
  obtain ⟨m1, m⟩ := He.ba m
  obtain ⟨m2, m⟩ := He.ba m
  obtain ⟨m3, m⟩ := He.ba m
  obtain ⟨m4, m⟩ := He.ba m
  obtain ⟨m5, m⟩ := He.ba m
  obtain ⟨m6, m⟩ := He.ba m
  obtain ⟨m7, m⟩ := He.ba m
  obtain ⟨m8, m⟩ := He.ba m
  obtain ⟨m9, m⟩ := He.ba m
  obtain ⟨m10, m⟩ := He.ba m
  obtain ⟨m11, m⟩ := He.ba m
  obtain ⟨m12, m⟩ := He.ba m
  obtain ⟨m13, m14⟩ := He.ba m
  exact {
    fn := fun i d hd => by
      obtain ⟨fd, F⟩ := c.def_ i hd
      have e : d.dvs K = [] ∧ d.kws K = [] := dk_nil i hd
      rw [e.1, e.2] at F
      exact ⟨fd, F⟩
    len := fr 0 _ rfl
    isi := fr 1 _ rfl
    int := fr 2 _ rfl
    bool := fr 3 _ rfl
    str := fr 4 _ rfl
    list := fr 5 _ rfl
    tuple := fr 6 _ rfl
    all := fr 7 _ rfl
    any := fr 8 _ rfl
    range := fr 9 _ rfl
    enum := fr 10 _ rfl
    sorted := fr 11 _ rfl
    gl := fun i x e => He.glo_ok X G (c.facts (mem_glo (at_mem i e)))
    letters := He.str_ok X G (c.facts (mem_const (at_mem 0 rfl)))
    signs := He.str_ok X G (c.facts (mem_const (at_mem 1 rfl)))
    msigns := He.int_ok X G (c.facts (mem_const (at_mem 2 rfl)))
    mvalue := He.int_ok X G (c.facts (mem_const (at_mem 3 rfl)))
    mrows := He.int_ok X G (c.facts (mem_const (at_mem 4 rfl)))
    mpairs := He.int_ok X G (c.facts (mem_const (at_mem 5 rfl)))
    cF := cl 0 _ rfl
    cJ := cl 1 _ rfl
    cT := cl 2 _ rfl
    cO := cl 3 _ rfl
    kF := mk 0 _ rfl
    kJ := mk 1 _ rfl
    kT := mk 2 _ rfl
    kO := mk 3 _ rfl
    Fplace := na 0 ("Fault", "place") rfl
    Fword := na 1 ("Fault", "word") rfl
    Jrows := na 2 ("PairJudge", "rows") rfl
    Jsteps := na 3 ("PairJudge", "steps") rfl
    Juppers := na 4 ("PairJudge", "uppers") rfl
    Jranks := na 5 ("PairJudge", "first_ranks") rfl
    Jvalues := na 6 ("PairJudge", "first_values") rfl
    Jselves := na 7 ("PairJudge", "selves") rfl
    Jspots := na 8 ("PairJudge", "spots") rfl
    Trows := na 9 ("PairTable", "rows") rfl
    Tby := na 10 ("PairTable", "by_pair") rfl
    Tlines := na 11 ("PairTable", "lines") rfl
    Torder := na 12 ("PairTable", "order") rfl
    Orows := na 13 ("Forest", "rows") rfl
    Oorder := na 14 ("Forest", "order") rfl
    Ospots := na 15 ("Forest", "spots") rfl
    Fa := He.eqO_ok m1
    Fn := He.eqO_ok m2
    Ft := of_decide_eq_true m3
    Fm := of_decide_eq_true m4
    Fi := of_decide_eq_true m5
    Fne := ⟨He.eqO_ok m6, m7, He.eqO_ok m8, of_decide_eq_true m4⟩
    oMost := by
      cases e : PySem.W.findCls K (.ref (He.ga K "Forest")) (.type "type") "MOST" with
      | none => rw [e] at m14; cases m14
      | some g =>
        rw [e] at m14
        cases g with
        | val u => exact ⟨u, ⟨m12, He.eqO_ok m13⟩, e, He.relB_ok m14⟩
        | _ => cases m14
    mFname := me 0 ("Fault", "class_name") rfl
    mFfacts := me 1 ("Fault", "facts") rfl
    mJupper := me 2 ("PairJudge", "first_upper") rfl
    mJself := me 3 ("PairJudge", "is_self_missing") rfl
    mJline := me 4 ("PairJudge", "is_line_broken") rfl
    mJgap := me 5 ("PairJudge", "is_gap") rfl
    mJrank := me 6 ("PairJudge", "is_rank_other") rfl
    mJvalue := me 7 ("PairJudge", "is_value_other") rfl
    mJorder := me 8 ("PairJudge", "is_order_broken") rfl
    mJfault := me 9 ("PairJudge", "fault") rfl
    mTforest := ⟨He.eqO_ok m9, m10, m11⟩
    mTput := me 10 ("PairTable", "put_rows") rfl
    mTnames := me 11 ("PairTable", "names") rfl
    mTworth := me 12 ("PairTable", "worth") rfl
    mTline := me 13 ("PairTable", "line_to") rfl }
end
end KW
end

section
set_option Elab.async false
set_option linter.all false
set_option maxRecDepth 100000
set_option maxHeartbeats 0
/-! The run of the top. -/
namespace KW
open PySem PySem.Spec PyProof.Rows L2 KR
def loose1 : List Str := ["_wall", "ForestError", "NoValue", "NoForest", "Twice", "NoNode", "NoTable", "LETTERS", "SIGNS", "MOST_SIGNS", "MOST_VALUE", "Thing", "is_integer", "is_sequence", "is_name", "is_value", "MOST_ROWS", "MOST_PAIRS", "Fault", "pair_word", "PairJudge", "judge_pairs"]
def loose2 : List Str := ["Asked", "row_fault", "Forest", "Table", "pair_rows", "PairTable", "_law_well", "_law_draw", "_law_one", "_law_names", "_law_value", "_law_levels", "_law_rows", "_law_pairs", "_law_mixed", "_law_has", "_law_parent", "_law_is_line_wrong", "_law_is_order_wrong", "_law_is_wrong", "_law_due", "_law_spoil"]
def looses : List Str := loose1 ++ loose2
abbrev qv : Program := PySem.W.view lawRow.prog [52]
theorem run (w : World) : HandSHeadRun.RunEq lawRow qv hk ob 9000 looses w := by
  intro os
  kernel_rfl
end KW
end

set_option Elab.async false
set_option linter.all false
set_option maxRecDepth 100000
set_option maxHeartbeats 0
/-! The law. -/
namespace KW
open PySem PySem.Spec PyProof.Rows L2 KR
theorem tabs_nil {K : PySem.W.Frag} {H : Hp} (h : H (pPut K) = some (.tbl #[])) : LamX.Tabs (TPut K) H := fun q hq => by
  rw [List.mem_singleton.mp hq]
  refine ⟨#[], h, ?_, fun pos cv hc => ?_⟩
  · trivial
  · cases hc
theorem law_at {w : World} {K : PySem.W.Frag} {mg : Str → Option Value} {fa : Addr} {h : Heap} (X : K.In h) (G : h.Ns mainGlobals mg) (hmg : mg ("law" : Str) = some (.ref fa)) (c : He.SaysX fas fns [] tfs exB w h K) :
    LamX.LawAtS PySem.Challenge.rw_forestrows_k22_whole_pair_rows_judged w K CX0 7 63 "_law_script" mg fa h := by
  have T := tx_of X G c.t.d c.more
  have hf : fa = He.fAd K dLaw.at_ := by
    have := hmg.symm.trans (T.gl 29 "law" rfl)
    injection this with e
    injection e
  subst hf
  obtain ⟨fd, F⟩ := T.fn 23 dLaw rfl
  have hb := F.bindsA (ps := ["_law_script"]) fun _ _ _ _ _ _ us hl => match us, hl with | [_], _ => rfl
  have m0 : dPPut.at_ ∈ tfs := List.mem_singleton.mpr rfl
  refine ⟨fd, [(cPut K, pPut K)], spLaw K, fun p hp => ?_, fun p hp => ?_, fun p hp => ?_, fun s v => hb s [v] rfl, fun H a ns hl _ hT hS => ?_, fun base _ _ hTB => ?_⟩
  · rw [List.mem_singleton.mp hp]
    exact c.empty _ m0
  · rw [List.mem_singleton.mp hp]
    exact c.out _ m0
  · rw [List.mem_singleton.mp hp]
    exact PySem.W.codeHd_of_K X (c.hd _ m0)
  · exact ⟨a, ns, rfl, hS, by omega, tabs_nil (hT _ (List.mem_singleton.mpr rfl)), fun _ => rfl⟩
  · exact (ok_law (P := PySem.Challenge.rw_forestrows_k22_whole_pair_rows_judged.prog) (w := w) (base := base) T (hTB _ (List.mem_singleton.mpr rfl)) F).ok
end KW
open PySem PySem.W PySem.Calls PyProof.Rows
theorem PySem.Challenge.cw_forestrows_k22_whole_pair_rows_judged_holds : PySem.Challenge.rw_forestrows_k22_whole_pair_rows_judged.Holds := by
  w_on; o_law
  refine HandSHeadRun.head_any (r := OpenLaw.row PySem.Challenge.rw_forestrows_k22_whole_pair_rows_judged) (q := KW.qv) (H := KW.hk) (ob := KW.ob) (M := 9000) (loose := KW.looses) (d := HandSHeadRun.topDef (OpenLaw.row PySem.Challenge.rw_forestrows_k22_whole_pair_rows_judged).prog 52) (kwd := []) KW.ob_eq
    (by kernel_rfl) (fun s => by kernel_rfl) KW.run (by kernel_rfl) (by kernel_rfl) (by kernel_rfl) (by rfl) (by first | assumption | decide +kernel) (by decide +kernel) ⟨rfl, rfl, rfl, rfl, rfl, by decide +kernel⟩ ?hw ?hc
  case hw => w_witness2
  case hc =>
    refine LamX.walk_ofTsE (l := PySem.Challenge.rw_forestrows_k22_whole_pair_rows_judged) (n := 63) (k := 7) (x := "_law_script") (CX := fun _ => L2.CX0) rfl (by decide) (by kernel_rfl) ⟨rfl, by decide, by decide⟩ ?F (fun _ _ _ _ _ z => z)
    intro w mg fa h Y G hmg0
    obtain ⟨K, KX, c⟩ := Y
    have hmg : mg ("law" : PySem.Str) = some (.ref fa) := by
      have e : (HandSHeadRun.topDef (OpenLaw.row PySem.Challenge.rw_forestrows_k22_whole_pair_rows_judged).prog 52).name = ("law" : PySem.Str) := by kernel_rfl
      rw [← e]
      exact hmg0
    exact ⟨K, KX, KW.law_at KX G hmg c⟩
