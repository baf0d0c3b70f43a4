import PyProof.Rows.All
import Wide.All
import OpenK.AllK
import Wide.FinOn
import HandS.ForMost
import HandS.Conv
import HandS.IsInst
import HandS.Star
import HandS.TupAny
import HandS.TupLe
import HandS.Zip
import HandS.SortInts
import HandS.Wide
import HandS.Lambda
import HandS.EndTab
import KE.GoesEnum
import HandS.SetFor
import HandS.Nested
import HandS.SortKw
import KE.KMinKey
import KE.SortKeyHeap
import HandS.Slots
import HandS.Words
import HandS.SortOrd
import KE.SortData
import KE.DataMinMax
import PySem.Challenge.RW_walledin_k26_whole_changes
set_option Elab.async false
set_option linter.all false
/-! Trees of arcs from a root with the least sum: one round of drawing a ring together. Plain Lean, no program in sight. -/
namespace WI

/-- an arc: from, to, what it costs -/
structure Arc where
  a : Int
  b : Int
  c : Int

/-- p gives each room but the root the arc that leads to it, d how far off it is -/
structure Arb (rooms : List Int) (arcs : List Arc) (root : Int) (p : Int → Arc) (d : Int → Nat) : Prop where
  mem : ∀ r ∈ rooms, r ≠ root → p r ∈ arcs
  hd : ∀ r ∈ rooms, r ≠ root → (p r).b = r
  tl : ∀ r ∈ rooms, r ≠ root → (p r).a ∈ rooms
  dn : ∀ r ∈ rooms, r ≠ root → d (p r).a < d r

def sumF (l : List Int) (f : Int → Int) : Int := (l.map f).sum

def tcost (rooms : List Int) (root : Int) (f : Int → Int) : Int := sumF (rooms.filter fun r => decide (r ≠ root)) f

def Has (rooms : List Int) (arcs : List Arc) (root c : Int) : Prop :=
  ∃ p d, Arb rooms arcs root p d ∧ tcost rooms root (fun r => (p r).c) = c

def Least (rooms : List Int) (arcs : List Arc) (root : Int) : Option Int → Prop
  | none => ∀ c, ¬ Has rooms arcs root c
  | some c => Has rooms arcs root c ∧ ∀ c', Has rooms arcs root c' → c ≤ c'

theorem sumF_nil (f : Int → Int) : sumF [] f = 0 := rfl
theorem sumF_cons (x : Int) (l : List Int) (f : Int → Int) : sumF (x :: l) f = f x + sumF l f := by
  simp [sumF]

theorem sumF_split (q : Int → Bool) (f : Int → Int) : ∀ l : List Int, sumF l f = sumF (l.filter q) f + sumF (l.filter fun x => !q x) f
  | [] => rfl
  | x :: l => by
    have ih := sumF_split q f l
    cases h : q x <;> simp [List.filter_cons, h, sumF_cons] <;> omega

theorem sumF_congr {f g : Int → Int} : ∀ {l : List Int}, (∀ x ∈ l, f x = g x) → sumF l f = sumF l g
  | [], _ => rfl
  | x :: l, h => by
    rw [sumF_cons, sumF_cons, h x (List.mem_cons_self ..), sumF_congr fun y hy => h y (List.mem_cons_of_mem _ hy)]

theorem sumF_add (f g : Int → Int) : ∀ l : List Int, sumF l (fun x => f x + g x) = sumF l f + sumF l g
  | [] => rfl
  | x :: l => by
    rw [sumF_cons, sumF_cons, sumF_cons, sumF_add f g l]; omega

theorem sumF_sub (f g : Int → Int) : ∀ l : List Int, sumF l (fun x => f x - g x) = sumF l f - sumF l g
  | [] => rfl
  | x :: l => by
    rw [sumF_cons, sumF_cons, sumF_cons, sumF_sub f g l]; omega

theorem sumF_le {f g : Int → Int} : ∀ {l : List Int}, (∀ x ∈ l, f x ≤ g x) → sumF l f ≤ sumF l g
  | [], _ => Int.le_refl _
  | x :: l, h => by
    rw [sumF_cons, sumF_cons]
    have h1 := h x (List.mem_cons_self ..)
    have h2 := sumF_le (l := l) fun y hy => h y (List.mem_cons_of_mem _ hy)
    omega

theorem sumF_zero {f : Int → Int} : ∀ {l : List Int}, (∀ x ∈ l, f x = 0) → sumF l f = 0
  | [], _ => rfl
  | x :: l, h => by
    rw [sumF_cons, h x (List.mem_cons_self ..), sumF_zero fun y hy => h y (List.mem_cons_of_mem _ hy)]; rfl

theorem sumF_nonneg {f : Int → Int} : ∀ {l : List Int}, (∀ x ∈ l, 0 ≤ f x) → 0 ≤ sumF l f
  | [], _ => Int.le_refl _
  | x :: l, h => by
    rw [sumF_cons]
    have h1 := h x (List.mem_cons_self ..)
    have h2 := sumF_nonneg (l := l) fun y hy => h y (List.mem_cons_of_mem _ hy)
    omega

theorem sumF_pick {f : Int → Int} {x : Int} : ∀ {l : List Int}, l.Nodup → x ∈ l → sumF l f = f x + sumF (l.filter fun y => decide (y ≠ x)) f
  | [], _, h => by cases h
  | y :: l, nd, h => by
    have nd' := List.nodup_cons.mp nd
    by_cases e : y = x
    · subst e
      have e2 : (l.filter fun z => decide (z ≠ y)) = l := by
        apply List.filter_eq_self.mpr
        intro z hz
        have : z ≠ y := fun e => nd'.1 (e ▸ hz)
        simp [this]
      rw [List.filter_cons]
      simp only [ne_eq, not_true_eq_false, decide_false, Bool.false_eq_true, if_false]
      simp only [ne_eq] at e2
      rw [e2, sumF_cons]
    · have hx : x ∈ l := by
        cases h with
        | head => exact absurd rfl e
        | tail _ h => exact h
      have ih := sumF_pick (f := f) nd'.2 hx
      rw [List.filter_cons]
      simp only [ne_eq, e, not_false_eq_true, decide_true, if_true]
      rw [sumF_cons, sumF_cons, ih]
      simp only [ne_eq]
      omega

theorem mem_le_sumF {f : Int → Int} {x : Int} {l : List Int} (nd : l.Nodup) (hx : x ∈ l) (h : ∀ y ∈ l, 0 ≤ f y) : f x ≤ sumF l f := by
  rw [sumF_pick nd hx]
  have := sumF_nonneg (f := f) (l := l.filter fun y => decide (y ≠ x)) fun y hy => h y (List.mem_filter.mp hy).1
  omega

theorem sumF_single {f : Int → Int} {x : Int} {l : List Int} (nd : l.Nodup) (hx : x ∈ l) (h : ∀ y ∈ l, y ≠ x → f y = 0) : sumF l f = f x := by
  rw [sumF_pick nd hx]
  have := sumF_zero (f := f) (l := l.filter fun y => decide (y ≠ x)) fun y hy => h y (List.mem_filter.mp hy).1 (by simpa using (List.mem_filter.mp hy).2)
  omega

theorem exists_min (d : Int → Nat) : ∀ {l : List Int}, l ≠ [] → ∃ x ∈ l, ∀ y ∈ l, d x ≤ d y
  | [], h => absurd rfl h
  | [x], _ => ⟨x, List.mem_cons_self .., fun y hy => by
      have := List.mem_singleton.mp hy
      subst this
      exact Nat.le_refl _⟩
  | x :: z :: l, _ => by
    obtain ⟨m, hm, h⟩ := exists_min d (l := z :: l) (by simp)
    by_cases e : d x ≤ d m
    · refine ⟨x, List.mem_cons_self .., fun y hy => ?_⟩
      cases hy with
      | head => exact Nat.le_refl _
      | tail _ hy => exact Nat.le_trans e (h y hy)
    · refine ⟨m, List.mem_cons_of_mem _ hm, fun y hy => ?_⟩
      cases hy with
      | head => omega
      | tail _ hy => exact h y hy

/-- what each room's least arc is -/
def Into (rooms : List Int) (arcs : List Arc) (root : Int) (into : Int → Arc) : Prop :=
  ∀ r ∈ rooms, r ≠ root → into r ∈ arcs ∧ (into r).b = r ∧ (into r).a ≠ r ∧ ∀ e ∈ arcs, e.b = r → e.a ≠ r → (into r).c ≤ e.c

/-- both ends of every arc are rooms -/
def ArcsIn (rooms : List Int) (arcs : List Arc) : Prop := ∀ e ∈ arcs, e.a ∈ rooms ∧ e.b ∈ rooms

/-- a ring of the least arcs -/
structure Ring (rooms : List Int) (root : Int) (into : Int → Arc) (C : List Int) : Prop where
  nd : C.Nodup
  ne : C ≠ []
  sub : ∀ x ∈ C, x ∈ rooms ∧ x ≠ root
  nx : ∀ (j : Nat) (x : Int), C[j]? = some x → C[if j + 1 = C.length then 0 else j + 1]? = some (into x).a

def toName (C : List Int) (name r : Int) : Int := if r ∈ C then name else r

/-- an arc with the ring drawn together -/
def drawn (C : List Int) (name root : Int) (into : Int → Arc) (e : Arc) : Arc :=
  ⟨toName C name e.a, toName C name e.b, if e.b = root then e.c else e.c - (into e.b).c⟩

def later (C : List Int) (name root : Int) (into : Int → Arc) (arcs : List Arc) : List Arc :=
  (arcs.filter fun e => decide (toName C name e.a ≠ toName C name e.b)).map (drawn C name root into)

def restOf (C : List Int) (name : Int) (rooms : List Int) : List Int := rooms.filter fun r => decide (r ∉ C) || decide (r = name)

theorem mem_later {C : List Int} {name root : Int} {into : Int → Arc} {arcs : List Arc} {e : Arc} :
    e ∈ later C name root into arcs ↔ ∃ e0 ∈ arcs, toName C name e0.a ≠ toName C name e0.b ∧ drawn C name root into e0 = e := by
  unfold later
  rw [List.mem_map]
  constructor
  · rintro ⟨e0, h, rfl⟩
    have := List.mem_filter.mp h
    exact ⟨e0, this.1, by simpa using this.2, rfl⟩
  · rintro ⟨e0, h, h2, rfl⟩
    exact ⟨e0, List.mem_filter.mpr ⟨h, by simpa using h2⟩, rfl⟩

theorem mem_rest {C : List Int} {name : Int} {rooms : List Int} {r : Int} : r ∈ restOf C name rooms ↔ r ∈ rooms ∧ (r ∉ C ∨ r = name) := by
  simp [restOf, List.mem_filter]

theorem toName_in {C : List Int} {name r : Int} (h : r ∈ C) : toName C name r = name := if_pos h
theorem toName_out {C : List Int} {name r : Int} (h : r ∉ C) : toName C name r = r := if_neg h

section
variable {rooms : List Int} {arcs : List Arc} {root name : Int} {into : Int → Arc} {C : List Int}

theorem later_in (hA : ArcsIn rooms arcs) (hC : ∀ x ∈ C, x ∈ rooms) (hn : name ∈ C) : ArcsIn (restOf C name rooms) (later C name root into arcs) := by
  intro e he
  obtain ⟨e0, h0, h1, rfl⟩ := mem_later.mp he
  have key : ∀ r, r ∈ rooms → toName C name r ∈ restOf C name rooms := by
    intro r hr
    by_cases h : r ∈ C
    · rw [toName_in h]; exact mem_rest.mpr ⟨hC _ hn, .inr rfl⟩
    · rw [toName_out h]; exact mem_rest.mpr ⟨hr, .inl h⟩
  exact ⟨key _ (hA e0 h0).1, key _ (hA e0 h0).2⟩

/-- the two sums, drawn apart -/
theorem cost_rest (nd : rooms.Nodup) (hC : ∀ x ∈ C, x ∈ rooms ∧ x ≠ root) (hn : name ∈ C) (g : Int → Int) :
    tcost (restOf C name rooms) root g = g name + sumF (rooms.filter fun r => decide (r ≠ root) && decide (r ∉ C)) g := by
  unfold tcost
  have nd1 : ((restOf C name rooms).filter fun r => decide (r ≠ root)).Nodup := List.Pairwise.filter _ (List.Pairwise.filter _ nd)
  have m1 : name ∈ ((restOf C name rooms).filter fun r => decide (r ≠ root)) := by
    rw [List.mem_filter]
    exact ⟨mem_rest.mpr ⟨(hC _ hn).1, .inr rfl⟩, by simpa using (hC _ hn).2⟩
  rw [sumF_pick nd1 m1]
  congr 2
  unfold restOf
  rw [List.filter_filter, List.filter_filter]
  apply List.filter_congr
  intro r hr
  by_cases h1 : r = root <;> by_cases h2 : r ∈ C <;> by_cases h3 : r = name <;> simp_all

theorem cost_all (nd : rooms.Nodup) (hC : ∀ x ∈ C, x ∈ rooms ∧ x ≠ root) (g : Int → Int) :
    tcost rooms root g = sumF (rooms.filter fun r => decide (r ∈ C)) g + sumF (rooms.filter fun r => decide (r ≠ root) && decide (r ∉ C)) g := by
  unfold tcost
  rw [sumF_split (fun r => decide (r ∈ C))]
  rw [List.filter_filter, List.filter_filter]
  congr 2
  · apply List.filter_congr
    intro r hr
    by_cases h2 : r ∈ C
    · simp [h2, (hC r h2).2]
    · simp [h2]
  · apply List.filter_congr
    intro r hr
    by_cases h1 : r = root <;> by_cases h2 : r ∈ C <;> simp_all

theorem into_le (hI : Into rooms arcs root into) {p : Int → Arc} {d : Int → Nat} (h : Arb rooms arcs root p d) {r : Int} (hr : r ∈ rooms) (hn : r ≠ root) : (into r).c ≤ (p r).c := by
  refine (hI r hr hn).2.2.2 (p r) (h.mem r hr hn) (h.hd r hr hn) fun e => ?_
  have := h.dn r hr hn
  rw [e] at this
  exact Nat.lt_irrefl _ this

theorem lower (nd : rooms.Nodup) (hI : Into rooms arcs root into) (R : Ring rooms root into C) (hn : name ∈ C)
    {p : Int → Arc} {d : Int → Nat} (h : Arb rooms arcs root p d) :
    ∃ c, Has (restOf C name rooms) (later C name root into arcs) root c ∧ c ≤ tcost rooms root (fun r => (p r).c) - tcost rooms root (fun r => (into r).c) := by
  obtain ⟨x, hx, hmin⟩ := exists_min d R.ne
  have hxr := R.sub x hx
  have hnr := R.sub name hn
  -- the tail of the ring's entrance is outside of the ring
  have htx : (p x).a ∉ C := fun hc => by
    have := hmin _ hc
    have := h.dn x hxr.1 hxr.2
    omega
  let p' : Int → Arc := fun r => if r = name then drawn C name root into (p x) else drawn C name root into (p r)
  let d' : Int → Nat := fun r => if r = name then d x else d r
  have pn : p' name = drawn C name root into (p x) := if_pos rfl
  have pr : ∀ {r}, r ≠ name → p' r = drawn C name root into (p r) := fun h => if_neg h
  have dn : d' name = d x := if_pos rfl
  have dr : ∀ {r}, r ≠ name → d' r = d r := fun h => if_neg h
  have out : ∀ {r}, r ∉ C → r ≠ name := fun h e => h (e ▸ hn)
  have hda : ∀ e : Arc, (drawn C name root into e).a = toName C name e.a := fun _ => rfl
  have hdb : ∀ e : Arc, (drawn C name root into e).b = toName C name e.b := fun _ => rfl
  refine ⟨_, ⟨p', d', ⟨?_, ?_, ?_, ?_⟩, rfl⟩, ?_⟩
  · intro r hr hroot
    obtain ⟨hr1, hr2⟩ := mem_rest.mp hr
    by_cases e : r = name
    · subst e
      rw [pn]
      refine mem_later.mpr ⟨p x, h.mem x hxr.1 hxr.2, ?_, rfl⟩
      rw [toName_out htx, h.hd x hxr.1 hxr.2, toName_in hx]
      exact out htx
    · have hrC : r ∉ C := hr2.resolve_right e
      rw [pr e]
      refine mem_later.mpr ⟨p r, h.mem r hr1 hroot, ?_, rfl⟩
      rw [h.hd r hr1 hroot, toName_out hrC]
      by_cases ht : (p r).a ∈ C
      · rw [toName_in ht]; exact fun q => e q.symm
      · rw [toName_out ht]
        intro q
        have := h.dn r hr1 hroot
        rw [q] at this
        exact Nat.lt_irrefl _ this
  · intro r hr hroot
    obtain ⟨hr1, hr2⟩ := mem_rest.mp hr
    by_cases e : r = name
    · subst e
      rw [pn, hdb, h.hd x hxr.1 hxr.2, toName_in hx]
    · have hrC : r ∉ C := hr2.resolve_right e
      rw [pr e, hdb, h.hd r hr1 hroot, toName_out hrC]
  · intro r hr hroot
    obtain ⟨hr1, hr2⟩ := mem_rest.mp hr
    by_cases e : r = name
    · subst e
      rw [pn, hda, toName_out htx]
      exact mem_rest.mpr ⟨h.tl x hxr.1 hxr.2, .inl htx⟩
    · have hrC : r ∉ C := hr2.resolve_right e
      rw [pr e, hda]
      by_cases ht : (p r).a ∈ C
      · rw [toName_in ht]; exact mem_rest.mpr ⟨hnr.1, .inr rfl⟩
      · rw [toName_out ht]; exact mem_rest.mpr ⟨h.tl r hr1 hroot, .inl ht⟩
  · intro r hr hroot
    obtain ⟨hr1, hr2⟩ := mem_rest.mp hr
    by_cases e : r = name
    · subst e
      rw [pn, hda, toName_out htx, dn, dr (out htx)]
      exact h.dn x hxr.1 hxr.2
    · have hrC : r ∉ C := hr2.resolve_right e
      rw [pr e, hda, dr e]
      have hd := h.dn r hr1 hroot
      by_cases ht : (p r).a ∈ C
      · rw [toName_in ht, dn]
        have := hmin _ ht
        omega
      · rw [toName_out ht, dr (out ht)]
        exact hd
  · rw [cost_rest nd R.sub hn, cost_all nd R.sub, cost_all nd R.sub]
    have c1 : (p' name).c = (p x).c - (into x).c := by
      rw [pn]
      show (if (p x).b = root then (p x).c else (p x).c - (into (p x).b).c) = _
      rw [h.hd x hxr.1 hxr.2, if_neg hxr.2]
    have c2 : sumF (rooms.filter fun r => decide (r ≠ root) && decide (r ∉ C)) (fun r => (p' r).c) =
        sumF (rooms.filter fun r => decide (r ≠ root) && decide (r ∉ C)) (fun r => (p r).c) - sumF (rooms.filter fun r => decide (r ≠ root) && decide (r ∉ C)) (fun r => (into r).c) := by
      rw [← sumF_sub]
      apply sumF_congr
      intro r hr
      obtain ⟨h1, h2⟩ := List.mem_filter.mp hr
      simp only [ne_eq, Bool.and_eq_true, decide_eq_true_eq] at h2
      have e : r ≠ name := out h2.2
      show (p' r).c = _
      rw [pr e]
      show (if (p r).b = root then (p r).c else (p r).c - (into (p r).b).c) = _
      rw [h.hd r h1 h2.1, if_neg h2.1]
    have c3 : (p x).c - (into x).c ≤ sumF (rooms.filter fun r => decide (r ∈ C)) (fun r => (p r).c) - sumF (rooms.filter fun r => decide (r ∈ C)) (fun r => (into r).c) := by
      rw [← sumF_sub]
      refine mem_le_sumF (f := fun r => (p r).c - (into r).c) (List.Pairwise.filter _ nd) (List.mem_filter.mpr ⟨hxr.1, by simpa using hx⟩) fun y hy => ?_
      have hy' := List.mem_filter.mp hy
      have hyC : y ∈ C := by simpa using hy'.2
      have := into_le hI h hy'.1 (R.sub y hyC).2
      show 0 ≤ (p y).c - (into y).c
      omega
    rw [c1, c2]
    omega

/-- how many steps from y along the ring to its place i -/
def posTo (C : List Int) (i : Nat) (y : Int) : Nat := if C.idxOf y ≤ i then i - C.idxOf y else i + C.length - C.idxOf y

theorem getElem?_idxOf {C : List Int} {y : Int} (h : y ∈ C) : C[C.idxOf y]? = some y := by
  have hl : C.idxOf y < C.length := List.idxOf_lt_length_of_mem h
  rw [List.getElem?_eq_getElem hl]
  congr 1
  exact List.getElem_idxOf hl

theorem idxOf_of_getElem? {C : List Int} (nd : C.Nodup) {j : Nat} {y : Int} (h : C[j]? = some y) : C.idxOf y = j := by
  have hy : y ∈ C := List.mem_of_getElem? h
  have h2 := getElem?_idxOf hy
  have hl : C.idxOf y < C.length := List.idxOf_lt_length_of_mem hy
  exact (List.getElem?_inj hl nd).mp (h2.trans h.symm)

theorem upper (nd : rooms.Nodup) (hA : ArcsIn rooms arcs) (hI : Into rooms arcs root into) (R : Ring rooms root into C) (hn : name ∈ C)
    {p' : Int → Arc} {d' : Int → Nat} (h : Arb (restOf C name rooms) (later C name root into arcs) root p' d') :
    Has rooms arcs root (tcost rooms root (fun r => (into r).c) + tcost (restOf C name rooms) root (fun r => (p' r).c)) := by
  have hnr := R.sub name hn
  have out : ∀ {r}, r ∉ C → r ≠ name := fun h e => h (e ▸ hn)
  -- the arc behind each drawn one
  have back : ∀ r, ∃ e0 : Arc, r ∈ restOf C name rooms → r ≠ root → e0 ∈ arcs ∧ toName C name e0.a ≠ toName C name e0.b ∧ drawn C name root into e0 = p' r := by
    intro r
    by_cases hr : r ∈ restOf C name rooms ∧ r ≠ root
    · obtain ⟨e0, h1, h2, h3⟩ := mem_later.mp (h.mem r hr.1 hr.2)
      exact ⟨e0, fun _ _ => ⟨h1, h2, h3⟩⟩
    · exact ⟨⟨0, 0, 0⟩, fun a b => absurd ⟨a, b⟩ hr⟩
  let q : Int → Arc := fun r => Classical.choose (back r)
  have hq : ∀ r, r ∈ restOf C name rooms → r ≠ root → q r ∈ arcs ∧ toName C name (q r).a ≠ toName C name (q r).b ∧ drawn C name root into (q r) = p' r := fun r => Classical.choose_spec (back r)
  have nrest : name ∈ restOf C name rooms := mem_rest.mpr ⟨hnr.1, .inr rfl⟩
  obtain ⟨qn1, qn2, qn3⟩ := hq name nrest hnr.2
  have hqb : toName C name (q name).b = name := by
    have := h.hd name nrest hnr.2
    rw [← qn3] at this
    exact this
  let x := (q name).b
  have hx : x ∈ C := by
    refine Decidable.byContradiction fun hc => ?_
    have e : toName C name x = x := toName_out hc
    have e2 : x = name := e.symm.trans hqb
    exact hc (e2 ▸ hn)
  have hxr := R.sub x hx
  have htx : (q name).a ∉ C := fun hc => qn2 (by rw [toName_in hc, hqb])
  -- outside of the ring
  have ho : ∀ r, r ∈ rooms → r ≠ root → r ∉ C → q r ∈ arcs ∧ (q r).b = r ∧ toName C name (q r).a ≠ r ∧ toName C name (q r).a = (p' r).a ∧ (p' r).c = (q r).c - (into r).c ∧ d' (toName C name (q r).a) < d' r := by
    intro r h1 h2 h3
    have hm : r ∈ restOf C name rooms := mem_rest.mpr ⟨h1, .inl h3⟩
    obtain ⟨a1, a2, a3⟩ := hq r hm h2
    have hb : toName C name (q r).b = r := by
      have := h.hd r hm h2
      rw [← a3] at this
      exact this
    have hb2 : (q r).b = r := by
      by_cases hc : (q r).b ∈ C
      · rw [toName_in hc] at hb
        exact absurd (hb ▸ hn) h3
      · rw [toName_out hc] at hb
        exact hb
    have ha : toName C name (q r).a = (p' r).a := by rw [← a3]; rfl
    refine ⟨a1, hb2, fun e => a2 (e.trans hb.symm), ha, ?_, ?_⟩
    · rw [← a3]
      show (if (q r).b = root then (q r).c else (q r).c - (into (q r).b).c) = _
      rw [hb2, if_neg h2]
    · rw [ha]; exact h.dn r hm h2
  let i := C.idxOf x
  have hi : i < C.length := List.idxOf_lt_length_of_mem hx
  let M := C.length + 1
  let p : Int → Arc := fun r => if r ∈ C then (if r = x then q name else into r) else q r
  let d : Int → Nat := fun r => if r ∈ C then M * d' name + posTo C i r else M * d' r
  have px : p x = q name := by
    show (if x ∈ C then (if x = x then q name else into x) else q x) = _
    rw [if_pos hx, if_pos rfl]
  have pc : ∀ {y}, y ∈ C → y ≠ x → p y = into y := fun {y} h1 h2 => by
    show (if y ∈ C then (if y = x then q name else into y) else q y) = _
    rw [if_pos h1, if_neg h2]
  have po : ∀ {y}, y ∉ C → p y = q y := fun {y} h1 => if_neg h1
  have dC : ∀ {y}, y ∈ C → d y = M * d' name + posTo C i y := fun h => if_pos h
  have dO : ∀ {y}, y ∉ C → d y = M * d' y := fun h => if_neg h
  have posl : ∀ {y}, y ∈ C → posTo C i y < M := by
    intro y hy
    have hl : C.idxOf y < C.length := List.idxOf_lt_length_of_mem hy
    show posTo C i y < C.length + 1
    unfold posTo
    split <;> omega
  refine ⟨p, d, ⟨?_, ?_, ?_, ?_⟩, ?_⟩
  · intro r hr hroot
    by_cases hc : r ∈ C
    · by_cases e : r = x
      · rw [e, px]; exact qn1
      · rw [pc hc e]; exact (hI r hr hroot).1
    · rw [po hc]; exact (ho r hr hroot hc).1
  · intro r hr hroot
    by_cases hc : r ∈ C
    · by_cases e : r = x
      · rw [e, px]
      · rw [pc hc e]; exact (hI r hr hroot).2.1
    · rw [po hc]; exact (ho r hr hroot hc).2.1
  · intro r hr hroot
    by_cases hc : r ∈ C
    · by_cases e : r = x
      · rw [e, px]; exact (hA _ qn1).1
      · rw [pc hc e]; exact (hA _ (hI r hr hroot).1).1
    · rw [po hc]; exact (hA _ (ho r hr hroot hc).1).1
  · intro r hr hroot
    by_cases hc : r ∈ C
    · by_cases e : r = x
      · rw [e, px, dO htx, dC hx]
        have h1 := h.dn name nrest hnr.2
        rw [← qn3] at h1
        have h2 : (drawn C name root into (q name)).a = (q name).a := toName_out htx
        rw [h2] at h1
        have h3 : M * d' (q name).a < M * d' name := Nat.mul_lt_mul_of_pos_left h1 (Nat.succ_pos _)
        omega
      · rw [pc hc e]
        have hj := getElem?_idxOf hc
        have hjl : C.idxOf r < C.length := List.idxOf_lt_length_of_mem hc
        have hne : C.idxOf r ≠ i := fun q => by
          have h2 := getElem?_idxOf hx
          rw [q] at hj
          exact e (Option.some.inj (hj.symm.trans h2))
        have hnx := R.nx _ _ hj
        have hm : (into r).a ∈ C := List.mem_of_getElem? hnx
        have hk := idxOf_of_getElem? R.nd hnx
        rw [dC hm, dC hc]
        have : posTo C i (into r).a < posTo C i r := by
          unfold posTo
          rw [hk]
          by_cases hl : C.idxOf r + 1 = C.length
          · rw [if_pos hl]
            rw [if_pos (Nat.zero_le _)]
            split <;> omega
          · rw [if_neg hl]
            split <;> split <;> omega
        omega
    · obtain ⟨b1, b2, b3, b4, b5, b6⟩ := ho r hr hroot hc
      rw [po hc, dO hc]
      by_cases ht : (q r).a ∈ C
      · rw [dC ht]
        rw [toName_in ht] at b6
        have h1 := posl ht
        have h2 : M * (d' name + 1) ≤ M * d' r := Nat.mul_le_mul_left _ b6
        rw [Nat.mul_add, Nat.mul_one] at h2
        omega
      · rw [dO ht]
        rw [toName_out ht] at b6
        exact Nat.mul_lt_mul_of_pos_left b6 (Nat.succ_pos _)
  · rw [cost_rest nd R.sub hn, cost_all nd R.sub, cost_all nd R.sub]
    have c1 : (p' name).c = (p x).c - (into x).c := by
      rw [px, ← qn3]
      show (if (q name).b = root then (q name).c else (q name).c - (into (q name).b).c) = _
      rw [if_neg hxr.2]
    have c2 : sumF (rooms.filter fun r => decide (r ≠ root) && decide (r ∉ C)) (fun r => (p' r).c) =
        sumF (rooms.filter fun r => decide (r ≠ root) && decide (r ∉ C)) (fun r => (p r).c) - sumF (rooms.filter fun r => decide (r ≠ root) && decide (r ∉ C)) (fun r => (into r).c) := by
      rw [← sumF_sub]
      apply sumF_congr
      intro r hr
      obtain ⟨h1, h2⟩ := List.mem_filter.mp hr
      simp only [ne_eq, Bool.and_eq_true, decide_eq_true_eq] at h2
      show (p' r).c = (p r).c - (into r).c
      rw [po h2.2]
      exact (ho r h1 h2.1 h2.2).2.2.2.2.1
    have c3 : (p x).c - (into x).c = sumF (rooms.filter fun r => decide (r ∈ C)) (fun r => (p r).c) - sumF (rooms.filter fun r => decide (r ∈ C)) (fun r => (into r).c) := by
      rw [← sumF_sub]
      refine (sumF_single (f := fun r => (p r).c - (into r).c) (List.Pairwise.filter _ nd) (List.mem_filter.mpr ⟨hxr.1, by simpa using hx⟩) fun y hy hne => ?_).symm
      have hy' := List.mem_filter.mp hy
      have hyC : y ∈ C := by simpa using hy'.2
      show (p y).c - (into y).c = 0
      rw [pc hyC hne]
      omega
    rw [c1, c2]
    omega

/-- ONE ROUND: the ring drawn together -/
theorem least_ring (nd : rooms.Nodup) (hA : ArcsIn rooms arcs) (hI : Into rooms arcs root into) (R : Ring rooms root into C) (hn : name ∈ C) {o : Option Int}
    (ho : Least (restOf C name rooms) (later C name root into arcs) root o) :
    Least rooms arcs root (o.map fun c => tcost rooms root (fun r => (into r).c) + c) := by
  cases o with
  | none =>
    rintro c ⟨p, d, h, -⟩
    obtain ⟨c', h', -⟩ := lower nd hI R hn h
    exact ho c' h'
  | some c =>
    obtain ⟨⟨p', d', h', rfl⟩, hle⟩ := ho
    refine ⟨upper nd hA hI R hn h', ?_⟩
    rintro c' ⟨p, d, h, rfl⟩
    obtain ⟨c'', h'', hc⟩ := lower nd hI R hn h
    have := hle c'' h''
    show tcost rooms root (fun r => (into r).c) + tcost (restOf C name rooms) root (fun r => (p' r).c) ≤ _
    omega

/-- a room without an arc -/
theorem least_lone {r : Int} (hr : r ∈ rooms) (hne : r ≠ root) (h : ∀ e ∈ arcs, e.b = r → e.a = r) : Least rooms arcs root none := by
  rintro c ⟨p, d, hp, -⟩
  have h1 := h _ (hp.mem r hr hne) (hp.hd r hr hne)
  have h2 := hp.dn r hr hne
  rw [h1] at h2
  exact Nat.lt_irrefl _ h2

/-- f, n times -/
def itf (f : Int → Int) : Nat → Int → Int
  | 0, r => r
  | n + 1, r => itf f n (f r)

/-- how many steps to the root, at most so many -/
def hit (f : Int → Int) (root : Int) : Nat → Int → Nat
  | 0, _ => 0
  | n + 1, r => if r = root then 0 else hit f root n (f r) + 1

theorem hit_step {f : Int → Int} {root : Int} : ∀ (m n : Nat) (r : Int), itf f m r = root → m ≤ n → hit f root n r = hit f root (n + 1) r
  | 0, n, r, h, _ => by
    have h : r = root := h
    cases n with
    | zero => simp [hit, h]
    | succ n => simp [hit, h]
  | m + 1, 0, r, _, hl => by omega
  | m + 1, n + 1, r, h, hl => by
    by_cases e : r = root
    · simp [hit, e]
    · have ih := hit_step m n (f r) h (by omega)
      show (if r = root then 0 else hit f root n (f r) + 1) = (if r = root then 0 else hit f root (n + 1) (f r) + 1)
      rw [if_neg e, if_neg e, ih]

theorem hit_dn {f : Int → Int} {root : Int} {N m : Nat} {r : Int} (hr : r ≠ root) (h : itf f m r = root) (hl : m ≤ N) : hit f root N (f r) < hit f root N r := by
  cases m with
  | zero => exact absurd h hr
  | succ m =>
    cases N with
    | zero => omega
    | succ N =>
      have h1 : itf f m (f r) = root := h
      have h2 := hit_step m N (f r) h1 (by omega)
      rw [← h2]
      show _ < (if r = root then 0 else hit f root N (f r) + 1)
      rw [if_neg hr]
      omega

/-- no ring: the least arcs are the tree -/
theorem least_done (nd : rooms.Nodup) (hA : ArcsIn rooms arcs) (hI : Into rooms arcs root into) (N : Nat)
    (h : ∀ r ∈ rooms, r ≠ root → ∃ m, m ≤ N ∧ itf (fun r => (into r).a) m r = root) : Least rooms arcs root (some (tcost rooms root fun r => (into r).c)) := by
  refine ⟨⟨into, hit (fun r => (into r).a) root N, ⟨fun r h1 h2 => (hI r h1 h2).1, fun r h1 h2 => (hI r h1 h2).2.1, fun r h1 h2 => (hA _ (hI r h1 h2).1).1, fun r h1 h2 => ?_⟩, rfl⟩, ?_⟩
  · obtain ⟨m, hm, e⟩ := h r h1 h2
    exact hit_dn (f := fun r => (into r).a) h2 e hm
  · rintro c' ⟨p, d, hp, rfl⟩
    refine sumF_le fun r hr => ?_
    obtain ⟨h1, h2⟩ := List.mem_filter.mp hr
    exact into_le hI hp h1 (by simpa using h2)

end
end WI
/-! Walls, rooms that are come to, lots turned: the least tree's sum is the least lot's length. Plain Lean. -/
namespace WI

structure Wall where
  lo : Int
  hi : Int
  sd : Int

def Wall.l (w : Wall) : List Int := [w.lo, w.hi, w.sd]

/-- a wall between two of so many rooms -/
structure WallOk (many : Int) (w : Wall) : Prop where
  h0 : 0 ≤ w.lo
  hl : w.lo < w.hi
  hm : w.hi < many
  hs : w.sd = 0 ∨ w.sd = 1 ∨ w.sd = 2

def sides (w : Wall) : List Int := if w.sd = 0 then [w.lo] else if w.sd = 1 then [w.hi] else [w.lo, w.hi]

def other (w : Wall) (s : Int) : Int := w.lo + w.hi - s

theorem sides_end {w : Wall} {s : Int} (h : s ∈ sides w) : s = w.lo ∨ s = w.hi := by
  unfold sides at h
  split at h
  · exact .inl (by simpa using h)
  · split at h
    · exact .inr (by simpa using h)
    · simpa using h

inductive Reach (ws : List Wall) : Int → Prop
  | zero : Reach ws 0
  | step {w : Wall} {s : Int} : w ∈ ws → s ∈ sides w → Reach ws s → Reach ws (other w s)

def Good (ws : List Wall) : Prop := ∀ w ∈ ws, ∃ s ∈ sides w, Reach ws s

theorem other_end {w : Wall} {s : Int} (h : s = w.lo ∨ s = w.hi) : other w s = w.lo ∨ other w s = w.hi := by
  unfold other
  rcases h with rfl | rfl <;> omega

def Busy (ws : List Wall) (r : Int) : Prop := r = 0 ∨ ∃ w ∈ ws, r = w.lo ∨ r = w.hi

theorem good_iff {ws : List Wall} : Good ws ↔ ∀ r, Busy ws r → Reach ws r := by
  constructor
  · intro h r hr
    rcases hr with rfl | ⟨w, hw, hr⟩
    · exact .zero
    · obtain ⟨s, hs, hR⟩ := h w hw
      have h2 := Reach.step hw hs hR
      have he := sides_end hs
      unfold other at h2
      rcases hr with rfl | rfl <;> rcases he with rfl | rfl
      · exact hR
      · rw [show w.lo + w.hi - w.hi = w.lo by omega] at h2; exact h2
      · rw [show w.lo + w.hi - w.lo = w.hi by omega] at h2; exact h2
      · exact hR
  · intro h w hw
    have hl := h w.lo (.inr ⟨w, hw, .inl rfl⟩)
    have hh := h w.hi (.inr ⟨w, hw, .inr rfl⟩)
    unfold sides
    split
    · exact ⟨w.lo, by simp, hl⟩
    · split
      · exact ⟨w.hi, by simp, hh⟩
      · exact ⟨w.lo, by simp, hl⟩

def flip (w : Wall) : Wall := ⟨w.lo, w.hi, 1 - w.sd⟩

/-- one wall of a yard with a lot turned -/
def turnAt (lot : List Int) (i : Nat) (w : Wall) : Wall := if (i : Int) ∈ lot ∧ w.sd < 2 then flip w else w

def turn (lot : List Int) (ws : List Wall) : List Wall := ws.mapIdx (turnAt lot)

theorem turnAt_lo {lot : List Int} {i : Nat} {w : Wall} : (turnAt lot i w).lo = w.lo := by
  unfold turnAt; split <;> rfl
theorem turnAt_hi {lot : List Int} {i : Nat} {w : Wall} : (turnAt lot i w).hi = w.hi := by
  unfold turnAt; split <;> rfl
theorem turnAt_other {lot : List Int} {i : Nat} {w : Wall} {s : Int} : other (turnAt lot i w) s = other w s := by
  unfold other; rw [turnAt_lo, turnAt_hi]
theorem turnAt_ok {lot : List Int} {i : Nat} {w : Wall} {many : Int} (h : WallOk many w) : WallOk many (turnAt lot i w) := by
  unfold turnAt
  split
  · rename_i q
    exact ⟨h.h0, h.hl, h.hm, by have := h.hs; show 1 - w.sd = 0 ∨ 1 - w.sd = 1 ∨ 1 - w.sd = 2; omega⟩
  · exact h
theorem turnAt_back {lot : List Int} {i : Nat} {w : Wall} {many : Int} (h : WallOk many w) : turnAt lot i (turnAt lot i w) = w := by
  unfold turnAt
  by_cases q : (i : Int) ∈ lot ∧ w.sd < 2
  · rw [if_pos q]
    have := h.hs
    rw [if_pos ⟨q.1, by show 1 - w.sd < 2; omega⟩]
    show (⟨w.lo, w.hi, 1 - (1 - w.sd)⟩ : Wall) = w
    rw [show 1 - (1 - w.sd) = w.sd by omega]
  · rw [if_neg q, if_neg q]

theorem turn_len {lot : List Int} {ws : List Wall} : (turn lot ws).length = ws.length := by simp [turn]
theorem turn_get {lot : List Int} {ws : List Wall} {i : Nat} : (turn lot ws)[i]? = ws[i]?.map (turnAt lot i) := by simp [turn]
theorem turn_ok {lot : List Int} {ws : List Wall} {many : Int} (h : ∀ w ∈ ws, WallOk many w) : ∀ w ∈ turn lot ws, WallOk many w := by
  intro w hw
  obtain ⟨i, hi⟩ := List.mem_iff_getElem?.mp hw
  rw [turn_get] at hi
  cases e : ws[i]? with
  | none => rw [e] at hi; cases hi
  | some v =>
    rw [e] at hi
    cases hi
    exact turnAt_ok (h v (List.mem_of_getElem? e))
theorem turn_back {lot : List Int} {ws : List Wall} {many : Int} (h : ∀ w ∈ ws, WallOk many w) : turn lot (turn lot ws) = ws := by
  apply List.ext_getElem?
  intro i
  rw [turn_get, turn_get]
  cases e : ws[i]? with
  | none => rfl
  | some v =>
    show some (turnAt lot i (turnAt lot i v)) = some v
    rw [turnAt_back (h v (List.mem_of_getElem? e))]
theorem turn_nil {ws : List Wall} : turn [] ws = ws := by
  apply List.ext_getElem?
  intro i
  rw [turn_get]
  cases e : ws[i]? with
  | none => rfl
  | some v =>
    show some (turnAt [] i v) = some v
    unfold turnAt
    rw [if_neg (by simp)]

theorem turn_busy {lot : List Int} {ws : List Wall} {r : Int} : Busy (turn lot ws) r ↔ Busy ws r := by
  constructor
  · rintro (h | ⟨w, hw, hr⟩)
    · exact .inl h
    · obtain ⟨i, hi⟩ := List.mem_iff_getElem?.mp hw
      rw [turn_get] at hi
      cases e : ws[i]? with
      | none => rw [e] at hi; cases hi
      | some v =>
        rw [e] at hi
        cases hi
        rw [turnAt_lo, turnAt_hi] at hr
        exact .inr ⟨v, List.mem_of_getElem? e, hr⟩
  · rintro (h | ⟨w, hw, hr⟩)
    · exact .inl h
    · obtain ⟨i, hi⟩ := List.mem_iff_getElem?.mp hw
      refine .inr ⟨turnAt lot i w, List.mem_iff_getElem?.mpr ⟨i, by rw [turn_get, hi]; rfl⟩, ?_⟩
      rw [turnAt_lo, turnAt_hi]
      exact hr

/-- an arc through a wall's gap from one of its rooms -/
def arcOf (w : Wall) (s : Int) : Arc := ⟨s, w.lo + w.hi - s, if s ∈ sides w then 0 else 1⟩

def arcsOf (ws : List Wall) : List Arc := ws.flatMap fun w => [arcOf w w.lo, arcOf w w.hi]

theorem mem_arcs {ws : List Wall} {e : Arc} : e ∈ arcsOf ws ↔ ∃ (i : Nat) (w : Wall) (s : Int), ws[i]? = some w ∧ (s = w.lo ∨ s = w.hi) ∧ e = arcOf w s := by
  unfold arcsOf
  rw [List.mem_flatMap]
  constructor
  · rintro ⟨w, hw, he⟩
    obtain ⟨i, hi⟩ := List.mem_iff_getElem?.mp hw
    have : e = arcOf w w.lo ∨ e = arcOf w w.hi := by simpa using he
    rcases this with h | h
    · exact ⟨i, w, _, hi, .inl rfl, h⟩
    · exact ⟨i, w, _, hi, .inr rfl, h⟩
  · rintro ⟨i, w, s, hi, hs, rfl⟩
    refine ⟨w, List.mem_of_getElem? hi, ?_⟩
    rcases hs with rfl | rfl <;> simp

theorem arcs_in {ws : List Wall} {B : List Int} (hB : ∀ r, r ∈ B ↔ Busy ws r) : ArcsIn B (arcsOf ws) := by
  intro e he
  obtain ⟨i, w, s, hi, hs, rfl⟩ := mem_arcs.mp he
  have hw := List.mem_of_getElem? hi
  constructor
  · exact (hB _).mpr (.inr ⟨w, hw, hs⟩)
  · refine (hB _).mpr (.inr ⟨w, hw, ?_⟩)
    exact other_end hs

theorem least_nat {P : Nat → Prop} (h : ∃ n, P n) : ∃ n, P n ∧ ∀ m, m < n → ¬ P m := by
  obtain ⟨n, hn⟩ := h
  induction n using Nat.strongRecOn with
  | _ n ih =>
    by_cases e : ∃ m, m < n ∧ P m
    · obtain ⟨m, hm, hp⟩ := e
      exact ih m hm hp
    · exact ⟨n, hn, fun m hm hp => e ⟨m, hm, hp⟩⟩

def ReachN (ws : List Wall) : Nat → Int → Prop
  | 0, r => r = 0
  | n + 1, r => ∃ w ∈ ws, ∃ s ∈ sides w, ReachN ws n s ∧ r = other w s

theorem reachN_of {ws : List Wall} {r : Int} (h : Reach ws r) : ∃ n, ReachN ws n r := by
  induction h with
  | zero => exact ⟨0, rfl⟩
  | step hw hs _ ih =>
    obtain ⟨n, hn⟩ := ih
    exact ⟨n + 1, _, hw, _, hs, hn, rfl⟩

theorem length_le_of_subset : ∀ {l m : List Int}, l.Nodup → (∀ x ∈ l, x ∈ m) → l.length ≤ m.length
  | [], _, _, _ => Nat.zero_le _
  | x :: l, m, nd, h => by
    have nd' := List.nodup_cons.mp nd
    have hx := h x (List.mem_cons_self ..)
    have ih := length_le_of_subset (l := l) (m := m.erase x) nd'.2 fun y hy => by
      have hne : y ≠ x := fun e => nd'.1 (e ▸ hy)
      exact (List.mem_erase_of_ne hne).mpr (h y (List.mem_cons_of_mem _ hy))
    rw [List.length_erase_of_mem hx] at ih
    have : 0 < m.length := List.length_pos_of_mem hx
    show l.length + 1 ≤ m.length
    omega

theorem nodup_map_on {f : Int → Int} : ∀ {l : List Int}, l.Nodup → (∀ x ∈ l, ∀ y ∈ l, f x = f y → x = y) → (l.map f).Nodup
  | [], _, _ => List.nodup_nil
  | x :: l, nd, h => by
    have nd' := List.nodup_cons.mp nd
    rw [List.map_cons, List.nodup_cons]
    refine ⟨fun hm => ?_, nodup_map_on nd'.2 fun a ha b hb => h a (List.mem_cons_of_mem _ ha) b (List.mem_cons_of_mem _ hb)⟩
    obtain ⟨y, hy, e⟩ := List.mem_map.mp hm
    have := h y (List.mem_cons_of_mem _ hy) x (List.mem_cons_self ..) e
    exact nd'.1 (this ▸ hy)

theorem sumF_count {f : Int → Int} : ∀ {l : List Int}, (∀ x ∈ l, f x = 0 ∨ f x = 1) → sumF l f = ((l.filter fun x => decide (f x = 1)).length : Int)
  | [], _ => rfl
  | x :: l, h => by
    have ih := sumF_count (l := l) fun y hy => h y (List.mem_cons_of_mem _ hy)
    rw [sumF_cons, ih, List.filter_cons]
    rcases h x (List.mem_cons_self ..) with e | e
    · rw [e]; simp
    · rw [e]; simp; omega

structure IsLot (n : Nat) (lot : List Int) : Prop where
  up : lot.Pairwise (· < ·)
  inn : ∀ x ∈ lot, 0 ≤ x ∧ x < n

theorem sides_turn {lot : List Int} {i : Nat} {w : Wall} {s : Int} (h : s ∈ sides (turnAt lot i w)) (h2 : s ∉ sides w) : (i : Int) ∈ lot := by
  refine Decidable.byContradiction fun hc => h2 ?_
  have : turnAt lot i w = w := if_neg fun q => hc q.1
  rw [this] at h
  exact h

theorem arc_c {w : Wall} {s : Int} : (arcOf w s).c = 0 ∨ (arcOf w s).c = 1 := by
  show (if s ∈ sides w then (0 : Int) else 1) = 0 ∨ (if s ∈ sides w then (0 : Int) else 1) = 1
  split
  · exact .inl rfl
  · exact .inr rfl

theorem nodup_of_up {l : List Int} (h : l.Pairwise (· < ·)) : l.Nodup := h.imp fun h => Int.ne_of_lt h

/-- a lot that does gives a tree that costs no more -/
theorem tree_of_lot {ws : List Wall} {B lot : List Int} {many : Int} (hw : ∀ w ∈ ws, WallOk many w) (nd : B.Nodup) (hB : ∀ r, r ∈ B ↔ Busy ws r)
    (hg : Good (turn lot ws)) : ∃ c, Has B (arcsOf ws) 0 c ∧ c ≤ (lot.length : Int) := by
  have hR : ∀ r ∈ B, ∃ n, ReachN (turn lot ws) n r := fun r hr => reachN_of (good_iff.mp hg r (turn_busy.mpr ((hB r).mp hr)))
  -- the least number of steps
  have hd : ∀ r, ∃ n, (∃ m, ReachN (turn lot ws) m r) → ReachN (turn lot ws) n r ∧ ∀ m, m < n → ¬ ReachN (turn lot ws) m r := by
    intro r
    by_cases e : ∃ m, ReachN (turn lot ws) m r
    · obtain ⟨n, h1, h2⟩ := least_nat e
      exact ⟨n, fun _ => ⟨h1, h2⟩⟩
    · exact ⟨0, fun h => absurd h e⟩
  let d : Int → Nat := fun r => Classical.choose (hd r)
  have hd' : ∀ r, (∃ m, ReachN (turn lot ws) m r) → ReachN (turn lot ws) (d r) r ∧ ∀ m, m < d r → ¬ ReachN (turn lot ws) m r := fun r => Classical.choose_spec (hd r)
  have dle : ∀ r m, ReachN (turn lot ws) m r → d r ≤ m := fun r m h => Nat.le_of_not_lt fun q => (hd' r ⟨m, h⟩).2 m q h
  have step : ∀ r, ∃ (i : Nat) (w : Wall) (s : Int), r ∈ B → r ≠ 0 → ws[i]? = some w ∧ s ∈ sides (turnAt lot i w) ∧ (s = w.lo ∨ s = w.hi) ∧ r = w.lo + w.hi - s ∧ d s < d r := by
    intro r
    by_cases hr : r ∈ B ∧ r ≠ 0
    · obtain ⟨h1, h2⟩ := hd' r (hR r hr.1)
      cases e : d r with
      | zero => rw [e] at h1; exact absurd h1 hr.2
      | succ n =>
        rw [e] at h1
        obtain ⟨w', hw', s, hs, hn, er⟩ := h1
        obtain ⟨i, hi⟩ := List.mem_iff_getElem?.mp hw'
        rw [turn_get] at hi
        cases ew : ws[i]? with
        | none => rw [ew] at hi; cases hi
        | some w =>
          rw [ew] at hi
          cases hi
          refine ⟨i, w, s, fun _ _ => ⟨ew, hs, ?_, ?_, ?_⟩⟩
          · have := sides_end hs
            rw [turnAt_lo, turnAt_hi] at this
            exact this
          · rw [turnAt_other] at er
            exact er
          · have := dle s n hn
            omega
    · exact ⟨0, ⟨0, 0, 0⟩, 0, fun a b => absurd ⟨a, b⟩ hr⟩
  let I : Int → Nat := fun r => Classical.choose (step r)
  let W : Int → Wall := fun r => Classical.choose (Classical.choose_spec (step r))
  let S : Int → Int := fun r => Classical.choose (Classical.choose_spec (Classical.choose_spec (step r)))
  have hs : ∀ r, r ∈ B → r ≠ 0 → ws[I r]? = some (W r) ∧ S r ∈ sides (turnAt lot (I r) (W r)) ∧ (S r = (W r).lo ∨ S r = (W r).hi) ∧ r = (W r).lo + (W r).hi - S r ∧ d (S r) < d r :=
    fun r => Classical.choose_spec (Classical.choose_spec (Classical.choose_spec (step r)))
  refine ⟨_, ⟨fun r => arcOf (W r) (S r), d, ⟨?_, ?_, ?_, ?_⟩, rfl⟩, ?_⟩
  · intro r h1 h2
    obtain ⟨a, b, c, e, f⟩ := hs r h1 h2
    exact mem_arcs.mpr ⟨I r, W r, S r, a, c, rfl⟩
  · intro r h1 h2
    obtain ⟨a, b, c, e, f⟩ := hs r h1 h2
    exact e.symm
  · intro r h1 h2
    obtain ⟨a, b, c, e, f⟩ := hs r h1 h2
    exact (hB _).mpr (.inr ⟨W r, List.mem_of_getElem? a, c⟩)
  · intro r h1 h2
    exact (hs r h1 h2).2.2.2.2
  · unfold tcost
    rw [sumF_count fun x _ => arc_c]
    have nd2 : ((B.filter fun r => decide (r ≠ 0)).filter fun x => decide ((arcOf (W x) (S x)).c = 1)).Nodup := List.Pairwise.filter _ (List.Pairwise.filter _ nd)
    have mem2 : ∀ x ∈ ((B.filter fun r => decide (r ≠ 0)).filter fun x => decide ((arcOf (W x) (S x)).c = 1)), x ∈ B ∧ x ≠ 0 ∧ (arcOf (W x) (S x)).c = 1 := by
      intro x hx
      obtain ⟨h1, h2⟩ := List.mem_filter.mp hx
      obtain ⟨h3, h4⟩ := List.mem_filter.mp h1
      exact ⟨h3, by simpa using h4, by simpa using h2⟩
    have inj := nodup_map_on (f := fun x => (I x : Int)) nd2 fun x hx y hy e => by
      obtain ⟨x1, x2, x3⟩ := mem2 x hx
      obtain ⟨y1, y2, y3⟩ := mem2 y hy
      obtain ⟨a, b, c, e1, f⟩ := hs x x1 x2
      obtain ⟨a', b', c', e1', f'⟩ := hs y y1 y2
      have eI : I x = I y := Int.ofNat.inj e
      have eW : W x = W y := by
        rw [eI] at a
        exact Option.some.inj (a.symm.trans a')
      rw [eW] at c e1
      refine Decidable.byContradiction fun hne => ?_
      have hwo := hw _ (List.mem_of_getElem? a')
      have hl := hwo.hl
      have q1 : S x = y := by omega
      have q2 : S y = x := by omega
      rw [q1] at f
      rw [q2] at f'
      omega
    have := length_le_of_subset inj (m := lot) fun k hk => by
      obtain ⟨x, hx, rfl⟩ := List.mem_map.mp hk
      obtain ⟨x1, x2, x3⟩ := mem2 x hx
      obtain ⟨a, b, c, e1, f⟩ := hs x x1 x2
      refine sides_turn b fun q => ?_
      have : (arcOf (W x) (S x)).c = 0 := if_pos q
      omega
    rw [List.length_map] at this
    exact Int.ofNat_le.mpr this

/-- a tree gives a lot that does, no longer than it costs -/
theorem lot_of_tree {ws : List Wall} {B : List Int} {many c : Int} (hw : ∀ w ∈ ws, WallOk many w) (nd : B.Nodup) (hB : ∀ r, r ∈ B ↔ Busy ws r)
    (h : Has B (arcsOf ws) 0 c) : ∃ lot, IsLot ws.length lot ∧ Good (turn lot ws) ∧ (lot.length : Int) ≤ c := by
  obtain ⟨p, d, A, rfl⟩ := h
  have step : ∀ r, ∃ (i : Nat) (w : Wall) (s : Int), r ∈ B → r ≠ 0 → ws[i]? = some w ∧ (s = w.lo ∨ s = w.hi) ∧ p r = arcOf w s := by
    intro r
    by_cases hr : r ∈ B ∧ r ≠ 0
    · obtain ⟨i, w, s, a, b, e⟩ := mem_arcs.mp (A.mem r hr.1 hr.2)
      exact ⟨i, w, s, fun _ _ => ⟨a, b, e⟩⟩
    · exact ⟨0, ⟨0, 0, 0⟩, 0, fun a b => absurd ⟨a, b⟩ hr⟩
  let I : Int → Nat := fun r => Classical.choose (step r)
  let W : Int → Wall := fun r => Classical.choose (Classical.choose_spec (step r))
  let S : Int → Int := fun r => Classical.choose (Classical.choose_spec (Classical.choose_spec (step r)))
  have hs : ∀ r, r ∈ B → r ≠ 0 → ws[I r]? = some (W r) ∧ (S r = (W r).lo ∨ S r = (W r).hi) ∧ p r = arcOf (W r) (S r) :=
    fun r => Classical.choose_spec (Classical.choose_spec (Classical.choose_spec (step r)))
  have hb : ∀ r, r ∈ B → r ≠ 0 → (W r).lo + (W r).hi - S r = r := fun r h1 h2 => by
    have := A.hd r h1 h2
    rw [(hs r h1 h2).2.2] at this
    exact this
  have hdn : ∀ r, r ∈ B → r ≠ 0 → d (S r) < d r := fun r h1 h2 => by
    have := A.dn r h1 h2
    rw [(hs r h1 h2).2.2] at this
    exact this
  let lot : List Int := ((List.range ws.length).map fun (k : Nat) => (k : Int)).filter fun k => B.any fun r => decide (r ≠ 0) && decide ((p r).c = 1) && decide ((I r : Int) = k)
  have mem_lot : ∀ k : Int, k ∈ lot ↔ (0 ≤ k ∧ k < (ws.length : Int)) ∧ ∃ r ∈ B, r ≠ 0 ∧ (p r).c = 1 ∧ (I r : Int) = k := by
    intro k
    show k ∈ List.filter _ _ ↔ _
    rw [List.mem_filter, List.mem_map]
    simp only [List.any_eq_true, Bool.and_eq_true, decide_eq_true_eq]
    constructor
    · rintro ⟨⟨n, hn, rfl⟩, r, hr, ⟨h1, h2⟩, h3⟩
      have := List.mem_range.mp hn
      exact ⟨⟨by omega, by omega⟩, r, hr, h1, h2, h3⟩
    · rintro ⟨⟨h0, h1⟩, r, hr, h2, h3, h4⟩
      exact ⟨⟨k.toNat, List.mem_range.mpr (by omega), by omega⟩, r, hr, ⟨h2, h3⟩, h4⟩
  have up : lot.Pairwise (· < ·) := by
    refine List.Pairwise.filter _ ?_
    rw [List.pairwise_map]
    exact List.pairwise_lt_range.imp fun h => by omega
  have hc1 : ∀ r ∈ B.filter (fun r => decide (r ≠ 0)), (p r).c = 0 ∨ (p r).c = 1 := by
    intro r hr
    obtain ⟨h1, h2⟩ := List.mem_filter.mp hr
    rw [(hs r h1 (by simpa using h2)).2.2]
    exact arc_c
  refine ⟨lot, ⟨up, fun x hx => ((mem_lot x).mp hx).1⟩, ?_, ?_⟩
  · refine good_iff.mpr fun r hr => ?_
    have hrB := (hB r).mpr (turn_busy.mp hr)
    clear hr
    generalize hn : d r = n
    induction n using Nat.strongRecOn generalizing r with
    | _ n ih =>
      by_cases r0 : r = 0
      · rw [r0]; exact .zero
      · obtain ⟨a, b, e⟩ := hs r hrB r0
        have e1 := hb r hrB r0
        have e2 := hdn r hrB r0
        have hw' := List.mem_of_getElem? a
        have hok := hw _ hw'
        have hSB : S r ∈ B := (hB _).mpr (.inr ⟨W r, hw', b⟩)
        have hS := ih (d (S r)) (by omega) (S r) hSB rfl
        have hm : turnAt lot (I r) (W r) ∈ turn lot ws := List.mem_iff_getElem?.mpr ⟨I r, by rw [turn_get, a]; rfl⟩
        have hside : S r ∈ sides (turnAt lot (I r) (W r)) := by
          by_cases q : S r ∈ sides (W r)
          · -- told already: not turned, or set from either side
            by_cases t : (I r : Int) ∈ lot ∧ (W r).sd < 2
            · exfalso
              obtain ⟨-, r', hr', h0', h1', h2'⟩ := (mem_lot _).mp t.1
              obtain ⟨a', b', e'⟩ := hs r' hr' h0'
              have eI : I r' = I r := Int.ofNat.inj h2'
              have eW : W r' = W r := by
                rw [eI] at a'
                exact Option.some.inj (a'.symm.trans a)
              have f1 := hb r' hr' h0'
              have f2 := hdn r' hr' h0'
              rw [eW] at b' f1 e'
              have q' : S r' ∉ sides (W r) := fun q' => by
                rw [e'] at h1'
                have : (arcOf (W r) (S r')).c = 0 := if_pos q'
                omega
              have hne : S r' ≠ S r := fun z => q' (z ▸ q)
              have hl := hok.hl
              have z1 : S r' = r := by omega
              have z2 : S r = r' := by omega
              rw [z1] at f2
              rw [z2] at e2
              omega
            · have : turnAt lot (I r) (W r) = W r := if_neg t
              rw [this]; exact q
          · have hcost : (p r).c = 1 := by rw [e]; exact if_neg q
            have hlt : I r < ws.length := (List.getElem?_eq_some_iff.mp a).1
            have hin : (I r : Int) ∈ lot := (mem_lot _).mpr ⟨⟨by omega, by omega⟩, r, hrB, r0, hcost, rfl⟩
            have h2 : (W r).sd < 2 := by
              refine Decidable.byContradiction fun z => q ?_
              have := hok.hs
              unfold sides
              rw [if_neg (by omega), if_neg (by omega)]
              rcases b with b | b <;> simp [b]
            have : turnAt lot (I r) (W r) = flip (W r) := if_pos ⟨hin, h2⟩
            rw [this]
            have h3 := hok.hs
            unfold sides flip
            unfold sides at q
            by_cases z : (W r).sd = 0
            · rw [if_pos z] at q
              show S r ∈ if 1 - (W r).sd = 0 then [(W r).lo] else if 1 - (W r).sd = 1 then [(W r).hi] else [(W r).lo, (W r).hi]
              rw [if_neg (by omega), if_pos (by omega)]
              have : S r ≠ (W r).lo := by simpa using q
              simpa using b.resolve_left this
            · have z1 : (W r).sd = 1 := by omega
              rw [if_neg z, if_pos z1] at q
              show S r ∈ if 1 - (W r).sd = 0 then [(W r).lo] else if 1 - (W r).sd = 1 then [(W r).hi] else [(W r).lo, (W r).hi]
              rw [if_pos (by omega)]
              have : S r ≠ (W r).hi := by simpa using q
              simpa using b.resolve_right this
        have := Reach.step hm hside hS
        rw [turnAt_other] at this
        unfold other at this
        rw [e1] at this
        exact this
  · unfold tcost
    rw [sumF_count hc1]
    have := length_le_of_subset (nodup_of_up up) (m := ((B.filter fun r => decide (r ≠ 0)).filter fun x => decide ((p x).c = 1)).map fun x => (I x : Int)) fun k hk => by
      obtain ⟨-, r, hr, h0, h1, h2⟩ := (mem_lot k).mp hk
      exact List.mem_map.mpr ⟨r, List.mem_filter.mpr ⟨List.mem_filter.mpr ⟨hr, by simpa using h0⟩, by simpa using h1⟩, h2⟩
    rw [List.length_map] at this
    exact Int.ofNat_le.mpr this

/-- what fewest_changes tells -/
def Fewest (ws : List Wall) : Option Int → Prop
  | none => ∀ lot, IsLot ws.length lot → ¬ Good (turn lot ws)
  | some m => (∃ lot, IsLot ws.length lot ∧ Good (turn lot ws) ∧ (lot.length : Int) = m) ∧ ∀ lot, IsLot ws.length lot → Good (turn lot ws) → m ≤ (lot.length : Int)

theorem fewest_of {ws : List Wall} {B : List Int} {many : Int} {o : Option Int} (hw : ∀ w ∈ ws, WallOk many w) (nd : B.Nodup) (hB : ∀ r, r ∈ B ↔ Busy ws r)
    (h : Least B (arcsOf ws) 0 o) : Fewest ws o := by
  cases o with
  | none =>
    intro lot hl hg
    obtain ⟨c, h1, -⟩ := tree_of_lot hw nd hB hg
    exact h c h1
  | some m =>
    obtain ⟨h1, h2⟩ := h
    have least : ∀ lot, IsLot ws.length lot → Good (turn lot ws) → m ≤ (lot.length : Int) := by
      intro lot hl hg
      obtain ⟨c, h3, h4⟩ := tree_of_lot hw nd hB hg
      have := h2 c h3
      omega
    obtain ⟨lot, h3, h4, h5⟩ := lot_of_tree hw nd hB h1
    have := least lot h3 h4
    exact ⟨⟨lot, h3, h4, by omega⟩, least⟩

theorem lot_nil (n : Nat) : IsLot n [] := ⟨List.Pairwise.nil, fun _ h => by cases h⟩

/-- no wall need be turned exactly if some order can be walked -/
theorem fewest_zero {ws : List Wall} {m : Int} (h : Fewest ws (some m)) : m = 0 ↔ Good ws := by
  obtain ⟨⟨lot, h1, h2, h3⟩, h4⟩ := h
  constructor
  · rintro rfl
    have : lot = [] := List.eq_nil_of_length_eq_zero (by omega)
    subst this
    rw [turn_nil] at h2
    exact h2
  · intro hg
    have := h4 [] (lot_nil _) (by rw [turn_nil]; exact hg)
    simp at this
    omega

theorem fewest_none {ws : List Wall} (h : Fewest ws none) : ¬ Good ws := fun hg => h [] (lot_nil _) (by rw [turn_nil]; exact hg)

end WI
set_option maxRecDepth 100000
/-! The ground: what a heap keeps, what an expression comes to, a def of the top. -/
namespace WI
open PySem PySem.Spec L2 LamX

/-! ### the text by places -/
def topS (i : Nat) : Stmt := PySem.Challenge.pw_walledin_k26_whole_changes.main.body.getD i (.Pass ⟨0, 0, 0, 0⟩)

/-! ### what is kept -/
abbrev LTab := List (Addr × Str)
/-- all but the tables stays, the tables stay tables, nothing that was tracked is gone -/
structure Ex (T : LTab) (H H' : Hp) : Prop where
  keep : ExtN H H'
  back : ∀ b, H' b = none → H b = none
  tabs : Tabs T H → Tabs T H'
section
variable {T : LTab} {H H' H1 H2 : Hp} {K : PySem.W.Frag}
theorem Ex.refl (H : Hp) : Ex T H H := ⟨ExtN.refl H, fun _ h => h, fun h => h⟩
theorem Ex.trans (a : Ex T H H1) (b : Ex T H1 H2) : Ex T H H2 := ⟨a.keep.trans b.keep, fun c h => a.back c (b.back c h), fun h => b.tabs (a.tabs h)⟩
theorem Ex.of (e : ∀ b o, H b = some o → H' b = some o) : Ex T H H' := by
  refine ⟨ExtN.of e, fun b h => ?_, fun t => t.ext e⟩
  cases q : H b with
  | none => rfl
  | some o => rw [e b o q] at h; cases h
theorem Ex.new {p : Addr} {o : HO} (h : H p = none) : Ex T H (upd H p o) := Ex.of fun a u e => by
  rw [upd_ne (ne_of_none e h)]
  exact e
theorem tabs_upd {p : Addr} {xs : List V} {o : HO} (hp : H p = some (.lst xs)) (t : Tabs T H) : Tabs T (upd H p o) := fun q hq => by
  obtain ⟨ps, h1, h2, h3⟩ := t q hq
  have n1 : q.1 ≠ p := fun z => by rw [z, hp] at h1; cases h1
  refine ⟨ps, by rw [upd_ne n1]; exact h1, h2, fun pos cv hc => ?_⟩
  obtain ⟨c, e1, e2⟩ := h3 pos cv hc
  have n2 : c ≠ p := fun z => by
    rw [z, hp] at e2
    unfold CodeO at e2
    cases e2
  exact ⟨c, e1, by rw [upd_ne n2]; exact e2⟩
theorem tabs_updD {p : Addr} {xs : List (Key × V)} {o : HO} (hp : H p = some (.dK xs)) (t : Tabs T H) : Tabs T (upd H p o) := fun q hq => by
  obtain ⟨ps, h1, h2, h3⟩ := t q hq
  have n1 : q.1 ≠ p := fun z => by rw [z, hp] at h1; cases h1
  refine ⟨ps, by rw [upd_ne n1]; exact h1, h2, fun pos cv hc => ?_⟩
  obtain ⟨c, e1, e2⟩ := h3 pos cv hc
  have n2 : c ≠ p := fun z => by
    rw [z, hp] at e2
    unfold CodeO at e2
    cases e2
  exact ⟨c, e1, by rw [upd_ne n2]; exact e2⟩
/-- a list that H does not know may change -/
theorem Ex.mut {p : Addr} {xs : List V} {o : HO} (e : Ex T H H') (h : H p = none) (hp : H' p = some (.lst xs)) : Ex T H (upd H' p o) := by
  refine ⟨fun a u ha n => ?_, fun b hb => ?_, fun t => tabs_upd hp (e.tabs t)⟩
  · rw [upd_ne (ne_of_none ha h)]
    exact e.keep a u ha n
  · by_cases z : b = p
    · rw [z]; exact h
    · rw [upd_ne z] at hb; exact e.back b hb
theorem Ex.mutD {p : Addr} {xs : List (Key × V)} {o : HO} (e : Ex T H H') (h : H p = none) (hp : H' p = some (.dK xs)) : Ex T H (upd H' p o) := by
  refine ⟨fun a u ha n => ?_, fun b hb => ?_, fun t => tabs_updD hp (e.tabs t)⟩
  · rw [upd_ne (ne_of_none ha h)]
    exact e.keep a u ha n
  · by_cases z : b = p
    · rw [z]; exact h
    · rw [upd_ne z] at hb; exact e.back b hb
theorem Ex.lst {a : Addr} {xs : List V} (e : Ex T H H') (h : H a = some (.lst xs)) : H' a = some (.lst xs) := e.keep a _ h (fun _ z => by cases z)
theorem Ex.tup {a : Addr} {xs : List V} (e : Ex T H H') (h : H a = some (.tup xs)) : H' a = some (.tup xs) := e.keep a _ h (fun _ z => by cases z)
theorem Ex.dK {a : Addr} {xs : List (Key × V)} (e : Ex T H H') (h : H a = some (.dK xs)) : H' a = some (.dK xs) := e.keep a _ h (fun _ z => by cases z)
theorem Ex.rd {a : Addr} {u : HO} (e : Ex T H H') (n : ∀ ps, u ≠ .tbl ps) (h : Rd H a u) : Rd H' a u := by
  rcases h with h | ⟨o, h⟩
  · exact .inl (e.keep a _ h n)
  · exact .inr ⟨o, e.keep a _ h (fun _ z => by cases z)⟩
theorem Ex.sql {a : Addr} {xs : List V} (e : Ex T H H') (h : SqL K H a xs) : SqL K H' a xs := by
  rcases h with h | h
  · exact .inl (e.rd (fun _ z => by cases z) h)
  · exact .inr h
theorem Ex.sqt {a : Addr} {xs : List V} (e : Ex T H H') (h : SqT K H a xs) : SqT K H' a xs := by
  rcases h with h | h
  · exact .inl (e.rd (fun _ z => by cases z) h)
  · exact .inr h

/-! ### what cannot change: tuples -/
/-- every tuple stays -/
def Tk (H H' : Hp) : Prop := ∀ a, (∀ xs, H a = some (.tup xs) → H' a = some (.tup xs)) ∧ ∀ o xs, H a = some (.frz o (.tup xs)) → H' a = some (.frz o (.tup xs))
theorem Tk.refl (H : Hp) : Tk H H := fun _ => ⟨fun _ h => h, fun _ _ h => h⟩
theorem Tk.trans (a : Tk H H1) (b : Tk H1 H2) : Tk H H2 := fun c => ⟨fun xs h => (b c).1 xs ((a c).1 xs h), fun o xs h => (b c).2 o xs ((a c).2 o xs h)⟩
theorem Ex.tk (e : Ex T H H') : Tk H H' := fun a => ⟨fun xs h => e.tup h, fun o xs h => e.keep a _ h (fun _ z => by cases z)⟩
theorem Tk.upd {p : Addr} {xs : List V} {o : HO} (hp : H p = some (.lst xs)) : Tk H (upd H p o) := fun a => ⟨fun ys h => by
  rw [upd_ne (fun z => by rw [z, hp] at h; cases h)]; exact h, fun u ys h => by
  rw [upd_ne (fun z => by rw [z, hp] at h; cases h)]; exact h⟩
theorem Tk.updD {p : Addr} {xs : List (Key × V)} {o : HO} (hp : H p = some (.dK xs)) : Tk H (L2.upd H p o) := fun a => ⟨fun ys h => by
  rw [upd_ne (fun z => by rw [z, hp] at h; cases h)]; exact h, fun u ys h => by
  rw [upd_ne (fun z => by rw [z, hp] at h; cases h)]; exact h⟩
theorem Tk.updN {p : Addr} {o : HO} (hp : H p = none) : Tk H (L2.upd H p o) := fun a => ⟨fun ys h => by
  rw [upd_ne (ne_of_none h hp)]; exact h, fun u ys h => by
  rw [upd_ne (ne_of_none h hp)]; exact h⟩
theorem Tk.sqt {a : Addr} {xs : List V} (e : Tk H H') (h : SqT K H a xs) : SqT K H' a xs := by
  rcases h with (h | ⟨o, h⟩) | h
  · exact .inl (.inl ((e a).1 xs h))
  · exact .inl (.inr ⟨o, (e a).2 o xs h⟩)
  · exact .inr h
end

/-- a word of a value that leans on tuples alone -/
def Stb (P : V → Hp → Prop) : Prop := ∀ v H H', P v H → Tk H H' → P v H'
theorem stb_eq {x : V} : Stb (fun v _ => v = x) := fun _ _ _ h _ => h

/-- a tuple of ints -/
def IT (K : PySem.W.Frag) (ns : List Int) (v : V) (H : Hp) : Prop := ∃ a, v = .ref a ∧ SqT K H a (ns.map V.int)
theorem IT.stb {K : PySem.W.Frag} {ns : List Int} : Stb (IT K ns) := fun _ _ _ ⟨a, e, h⟩ k => ⟨a, e, k.sqt h⟩
/-- a tuple of things -/
def TT' {α : Type} (K : PySem.W.Frag) (P : α → V → Hp → Prop) (ds : List α) (v : V) (H : Hp) : Prop := ∃ a vs, v = .ref a ∧ SqT K H a vs ∧ Paired (fun v d => P d v H) vs ds
theorem paired_mono {α β : Type} {F G : α → β → Prop} (h : ∀ a b, F a b → G a b) : ∀ {l : List α} {m : List β}, Paired F l m → Paired G l m
  | _, _, .nil => .nil
  | _, _, .cons p t => .cons (h _ _ p) (paired_mono h t)
theorem TT'.stb {α : Type} {K : PySem.W.Frag} {P : α → V → Hp → Prop} (hP : ∀ d, Stb (P d)) {ds : List α} : Stb (TT' K P ds) := fun _ _ _ ⟨a, vs, e, h, p⟩ k =>
  ⟨a, vs, e, k.sqt h, paired_mono (fun v d q => hP d v _ _ q k) p⟩
theorem Stb.ex {P : V → Hp → Prop} (s : Stb P) {T : LTab} {H H' : Hp} {v : V} (h : P v H) (e : Ex T H H') : P v H' := s v H H' h e.tk
theorem paired_get {α β : Type} {F : α → β → Prop} : ∀ {l : List α} {m : List β} {i : Nat} {x : α}, Paired F l m → l[i]? = some x → ∃ y, m[i]? = some y ∧ F x y
  | _, _, i, _, .nil, h => by simp at h
  | _, _, 0, _, .cons p t, h => by simp at h; subst h; exact ⟨_, rfl, p⟩
  | _, _, i + 1, _, .cons p t, h => by
    obtain ⟨y, h1, h2⟩ := paired_get (i := i) t (by simpa using h)
    exact ⟨y, by simpa using h1, h2⟩
theorem paired_get' {α β : Type} {F : α → β → Prop} : ∀ {l : List α} {m : List β} {i : Nat} {y : β}, Paired F l m → m[i]? = some y → ∃ x, l[i]? = some x ∧ F x y
  | _, _, i, _, .nil, h => by simp at h
  | _, _, 0, _, .cons p t, h => by simp at h; subst h; exact ⟨_, rfl, p⟩
  | _, _, i + 1, _, .cons p t, h => by
    obtain ⟨y, h1, h2⟩ := paired_get' (i := i) t (by simpa using h)
    exact ⟨y, by simpa using h1, h2⟩
theorem paired_map {α β : Type} {f : α → β} : ∀ {l : List β} {m : List α}, Paired (fun b a => b = f a) l m → l = m.map f
  | _, _, .nil => rfl
  | _, _, .cons p t => by rw [p, paired_map t, List.map_cons]
theorem paired_of_map {α β : Type} {F : β → α → Prop} {f : α → β} (h : ∀ a, F (f a) a) : ∀ m : List α, Paired F (m.map f) m
  | [] => .nil
  | a :: m => .cons (h a) (paired_of_map h m)
theorem paired_refl {α : Type} {F : α → α → Prop} (h : ∀ a, F a a) : ∀ m : List α, Paired F m m
  | [] => .nil
  | a :: m => .cons (h a) (paired_refl h m)

/-! ### truth of a proposition as a bool -/
noncomputable def tv (φ : Prop) : Bool := @decide φ (Classical.propDecidable φ)
theorem tv_iff {φ : Prop} : tv φ = true ↔ φ := @decide_eq_true_iff φ (Classical.propDecidable φ)
theorem tv_true {φ : Prop} (h : φ) : tv φ = true := tv_iff.mpr h
theorem tv_false {φ : Prop} (h : ¬ φ) : tv φ = false := by
  cases e : tv φ with
  | false => rfl
  | true => exact absurd (tv_iff.mp e) h
theorem tv_eq {φ : Prop} {b : Bool} (h : b = true ↔ φ) : b = tv φ := by
  cases b with
  | true => exact (tv_true (h.mp rfl)).symm
  | false => exact (tv_false fun q => by have := h.mpr q; cases this).symm
theorem tv_congr {φ ψ : Prop} (h : φ ↔ ψ) : tv φ = tv ψ := tv_eq (tv_iff.trans h)
theorem tv_dec {φ : Prop} [d : Decidable φ] : decide φ = tv φ := tv_eq decide_eq_true_iff

/-! ### what an expression comes to -/
section
variable (T : LTab)
def Ev (te : TE) (σ : St) (H : Hp) (P : V → Hp → Prop) : Prop := ∀ H1, Ex T H H1 → ∀ Q : VK, (∀ v H2, Ex T H1 H2 → P v H2 → Q v H2) → te σ H1 Q
def EvT (tt : TT) (σ : St) (H : Hp) (b : Bool) : Prop := ∀ H1, Ex T H H1 → ∀ Q : Bool → Hp → Prop, (∀ H2, Ex T H1 H2 → Q b H2) → tt σ H1 Q
def EvA (ta : TA) (σ : St) (H : Hp) (P : List V → Hp → Prop) : Prop := ∀ H1, Ex T H H1 → ∀ Q : List V → Hp → Prop, (∀ vs H2, Ex T H1 H2 → P vs H2 → Q vs H2) → ta σ H1 Q
/-- a promise: it comes to what P says -/
def Pure (P : V → Hp → Prop) (H : Hp) (Q : VK) : Prop := ∀ v H', Ex T H H' → P v H' → Q v H'
end
section
variable {T : LTab} {σ : St} {H H' : Hp} {te ta tb : TE} {tt tu : TT} {P P' Pa Pb : V → Hp → Prop}
theorem Ev.mono (e : Ex T H H') (h : Ev T te σ H P) : Ev T te σ H' P := fun H1 a Q q => h H1 (e.trans a) Q q
theorem EvT.mono {b : Bool} (e : Ex T H H') (h : EvT T tt σ H b) : EvT T tt σ H' b := fun H1 a Q q => h H1 (e.trans a) Q q
theorem Ev.imp (h : Ev T te σ H P) (i : ∀ v H2, Ex T H H2 → P v H2 → P' v H2) : Ev T te σ H P' := fun H1 a Q q => h H1 a Q fun v H2 e p => q v H2 e (i v H2 (a.trans e) p)
/-- at once: go on from the heap that stands -/
theorem Ev.go (h : Ev T te σ H P) {Q : VK} (q : ∀ v H2, Ex T H H2 → P v H2 → Q v H2) : te σ H Q := h H (Ex.refl H) Q q
theorem EvT.go {b : Bool} (h : EvT T tt σ H b) {Q : Bool → Hp → Prop} (q : ∀ H2, Ex T H H2 → Q b H2) : tt σ H Q := h H (Ex.refl H) Q q
theorem ev_var {i : Nat} {v : V} (h : σ[i]? = some (some v)) : Ev T (tVar i) σ H (fun x _ => x = v) := fun H1 _ _ q => ⟨v, h, q _ H1 (Ex.refl H1) rfl⟩
theorem ev_c {v : V} : Ev T (tC v) σ H (fun x _ => x = v) := fun H1 _ _ q => q _ H1 (Ex.refl H1) rfl
/-- two operands, the first of which says what tuples say -/
theorem ev_op {r : R2} (ha : Ev T ta σ H Pa) (sa : Stb Pa) (hb : Ev T tb σ H Pb) (hr : ∀ x y H1, Ex T H H1 → Pa x H1 → Pb y H1 → ∀ Q : VK, (∀ v H2, Ex T H1 H2 → P v H2 → Q v H2) → r x y H1 Q) : Ev T (tOp r ta tb) σ H P := fun H1 e Q q =>
  ha H1 e _ fun x H2 e2 p2 => hb H2 (e.trans e2) _ fun y H3 e3 p3 => hr x y H3 ((e.trans e2).trans e3) (sa.ex p2 e3) p3 Q fun v H4 e4 p4 => q v H4 ((e2.trans e3).trans e4) p4
theorem et_test {b : Bool} (h : Ev T te σ H (fun v _ => v = .bl b)) : EvT T (tTest te) σ H b := fun H1 e _ q => h H1 e _ fun v H2 e2 p => ⟨b, p, q H2 e2⟩
theorem et_B {b : Bool} (h : Ev T te σ H (fun v _ => v = .bl b)) : EvT T (tB te) σ H b := fun H1 e _ q => h H1 e _ fun v H2 e2 p => ⟨b, p, q H2 e2⟩
theorem et_and {a b : Bool} (h1 : EvT T tt σ H a) (h2 : a = true → EvT T tu σ H b) : EvT T (tAnd tt tu) σ H (a && b) := fun H1 e Q q => h1 H1 e _ fun H2 e2 => by
  cases a with
  | true =>
    show tu σ H2 Q
    exact h2 rfl H2 (e.trans e2) Q fun H3 e3 => q H3 (e2.trans e3)
  | false =>
    show Q false H2
    exact q H2 e2
theorem et_or {a b : Bool} (h1 : EvT T tt σ H a) (h2 : a = false → EvT T tu σ H b) : EvT T (tOr tt tu) σ H (a || b) := fun H1 e Q q => h1 H1 e _ fun H2 e2 => by
  cases a with
  | true =>
    show Q true H2
    exact q H2 e2
  | false =>
    show tu σ H2 Q
    exact h2 rfl H2 (e.trans e2) Q fun H3 e3 => q H3 (e2.trans e3)
theorem et_not {a : Bool} (h1 : EvT T tt σ H a) : EvT T (tNot tt) σ H (!a) := fun H1 e _ q => h1 H1 e _ fun H2 e2 => q H2 e2
theorem et_is {a b : Bool} (h : EvT T tt σ H a) (e : a = b) : EvT T tt σ H b := by
  rw [← e]
  exact h
theorem ev_andV {a b : Bool} (h1 : Ev T ta σ H (fun v _ => v = .bl a)) (h2 : a = true → Ev T tb σ H (fun v _ => v = .bl b)) : Ev T (tAndV ta tb) σ H (fun v _ => v = .bl (a && b)) := fun H1 e Q q => h1 H1 e _ fun v H2 e2 p => ⟨a, p, by
  cases a with
  | true =>
    show tb σ H2 Q
    exact h2 rfl H2 (e.trans e2) Q fun v H3 e3 p3 => q v H3 (e2.trans e3) (by rw [p3]; rfl)
  | false =>
    show Q (.bl false) H2
    exact q _ H2 e2 rfl⟩
theorem ev_orV {a b : Bool} (h1 : Ev T ta σ H (fun v _ => v = .bl a)) (h2 : a = false → Ev T tb σ H (fun v _ => v = .bl b)) : Ev T (tOrV ta tb) σ H (fun v _ => v = .bl (a || b)) := fun H1 e Q q => h1 H1 e _ fun v H2 e2 p => ⟨a, p, by
  cases a with
  | true =>
    show Q (.bl true) H2
    exact q _ H2 e2 rfl
  | false =>
    show tb σ H2 Q
    exact h2 rfl H2 (e.trans e2) Q fun v H3 e3 p3 => q v H3 (e2.trans e3) (by rw [p3]; rfl)⟩
theorem ev_notV {a : Bool} (h1 : Ev T ta σ H (fun v _ => v = .bl a)) : Ev T (tNotV ta) σ H (fun v _ => v = .bl (!a)) := fun H1 e _ q => h1 H1 e _ fun v H2 e2 p => ⟨a, p, q _ H2 e2 rfl⟩
theorem ev_if {b : Bool} (h : EvT T tt σ H b) (h1 : b = true → Ev T ta σ H P) (h2 : b = false → Ev T tb σ H P) : Ev T (tIf tt ta tb) σ H P := fun H1 e Q q => h H1 e _ fun H2 e2 => by
  cases b with
  | true =>
    show ta σ H2 Q
    exact h1 rfl H2 (e.trans e2) Q fun v H3 e3 p3 => q v H3 (e2.trans e3) p3
  | false =>
    show tb σ H2 Q
    exact h2 rfl H2 (e.trans e2) Q fun v H3 e3 p3 => q v H3 (e2.trans e3) p3
theorem ea_nil : EvA T tNil σ H (fun vs _ => vs = []) := fun H1 _ _ q => q _ H1 (Ex.refl H1) rfl
theorem ea_cons {tr : TA} {Pr : List V → Hp → Prop} (h : Ev T ta σ H Pa) (sa : Stb Pa) (hr : EvA T tr σ H Pr) : EvA T (tCons ta tr) σ H (fun vs H' => ∃ x r, vs = x :: r ∧ Pa x H' ∧ Pr r H') := fun H1 e _ q =>
  h H1 e _ fun x H2 e2 p2 => hr H2 (e.trans e2) _ fun r H3 e3 p3 => q _ H3 (e2.trans e3) ⟨x, r, rfl, sa.ex p2 e3, p3⟩
theorem EvA.imp {ta : TA} {Pr Pr' : List V → Hp → Prop} (h : EvA T ta σ H Pr) (i : ∀ v H2, Ex T H H2 → Pr v H2 → Pr' v H2) : EvA T ta σ H Pr' := fun H1 a Q q => h H1 a Q fun v H2 e p => q v H2 e (i v H2 (a.trans e) p)
/-- a display of a tuple, of a list -/
theorem ev_tup {t : TA} {vs : List V → Hp → Prop} (h : EvA T t σ H vs) (hl : ∀ xs H', vs xs H' → xs.length ≤ 100000) : Ev T (tTup t) σ H (fun v H' => ∃ a xs, v = .ref a ∧ H' a = some (.tup xs) ∧ ∃ H0, Ex T H0 H' ∧ Tk H0 H' ∧ vs xs H0) := fun H1 e Q q =>
  h H1 e _ fun xs H2 e2 p => ⟨Nat.le_trans (hl xs H2 p) (by decide), fun a ha => q _ _ (e2.trans (Ex.new ha)) ⟨a, xs, rfl, upd_same, H2, Ex.new ha, (Ex.new (T := T) ha).tk, p⟩⟩
end

/-! ### a def of the top -/
structure Dfn (P : Program) (w : World) (K : PySem.W.Frag) (mg : Str → Option Value) (base : Heap) (k : Nat) (x : Str) (ps : List Str) (sp : Sp) : Prop where
  ex : ∃ (f : Addr) (fd : FuncData), FnOk P w K mg base CX0 k f fd ps sp ∧ mg x = some (.ref f) ∧ PySem.W.keepIn K (.ref f) = true ∧ L2.Binds K fd ps []
def tDfn (sp : Sp) (t : TA) : TE := fun σ H Q => t σ H fun vs H1 => sp vs H1 Q E0
section
variable {X : Cx}
theorem pe_dfn {x : Str} {ps : List Str} {sp : Sp} {k : Nat} {e : Expr} {es : List Expr} {p pos : Pos} {t : TA} (D : Dfn X.prog X.w X.K X.mg X.base k x ps sp) (hr : Room k X.A) (ha : PA X (e :: es) t) (hg : Gl X x := by rfl) (hdb : (x == ("__debug__" : Str)) = false := by decide)
    (he : starEach (e :: es) X.env = (false, eval e X.env) :: starEach es X.env := by rfl) (hpl : (backTo pos (starEach es X.env)).any (·.1) = false := by rfl) : PE X (.Call (.Name x p) (e :: es) [] pos) (tDfn sp t) := by
  obtain ⟨f, fd, F, hm, hk, hb⟩ := D.ex
  have h := pe_call (E := E0) (p := p) (pos := pos) F hr hg hm hk hb .nil pass0 ha hdb he hpl
  have e : tCall sp [] E0 t = tDfn sp t := by
    funext σ H Q
    show t σ H (fun vs H1 => sp (vs ++ []) H1 Q E0) = t σ H (fun vs H1 => sp vs H1 Q E0)
    congr 1
    funext vs H1
    rw [List.append_nil]
  rw [e] at h
  exact h
end
theorem Dfn.mono {P : Program} {w : World} {K : PySem.W.Frag} {mg : Str → Option Value} {base : Heap} {j k : Nat} {x : Str} {ps : List Str} {sp : Sp} (D : Dfn P w K mg base j x ps sp) (h : j ≤ k) : Dfn P w K mg base k x ps sp := by
  obtain ⟨f, fd, F, r⟩ := D.ex
  exact ⟨f, fd, F.mono h, r⟩
theorem ev_dfn {T : LTab} {σ : St} {H : Hp} {sp : Sp} {t : TA} {P : V → Hp → Prop} {Pr : List V → Hp → Prop} (h : EvA T t σ H Pr) (hs : ∀ vs H1, Ex T H H1 → Pr vs H1 → ∀ Q : VK, Pure T P H1 Q → sp vs H1 Q E0) : Ev T (tDfn sp t) σ H P := fun H1 e Q q =>
  h H1 e _ fun vs H2 e2 p => hs vs H2 (e.trans e2) p Q fun v H3 e3 p3 => q v H3 (e2.trans e3) p3
end WI
set_option maxRecDepth 100000
set_option maxHeartbeats 2000000
/-! Rules that the layer lacks: enumerate of a tuple, list.extend by a tuple. -/
namespace WI
open PySem PySem.Spec L2 LamX

/-! ### enumerate(tuple) -/
theorem enum_made {v : Value} {o : Obj} {H : Heap → Prop} (B : Begins v o H) :
    Meets (Builtin.«enumerate.__new__» ⟨[.type "enumerate", v], []⟩) (fun _ R s => H s.heap ∧
      R (.ok (.ret (.ref (s.heap.push o).objs.size))) { s with heap := (s.heap.push o).push { cls := .type "enumerate", data := .fields #[.none, .bool false, .ref s.heap.objs.size, rawInt 0, .none, .none] } }) :=
  .of_wp fun prog w A R s h => by
    obtain ⟨hp, gs, dr, tk, os⟩ := s
    obtain ⟨h1, h⟩ := h
    have isSub := sub_enumerate
    have first : ∀ {A' : Around} {E : Value → Shared → Prop} {Q : Value → Shared → Prop}, Q (.ref hp.objs.size) ⟨hp.push o, gs, dr, tk, os⟩ → wpAny (model prog w) A' (pyIter v) Q E ⟨hp, gs, dr, tk, os⟩ :=
      fun z => B.iter prog w _ _ ⟨hp, gs, dr, tk, os⟩ _ h1 z
    wp_walk using first
    refine wpAny_stack_any fun st => wpAny_pure ?_
    split
    · rename_i c _ _ _ _ _
      cases (c == Value.type "enumerate") <;> (wp_walk using first; exact ⟨_, rfl, h⟩)
    · wp_walk using first
      exact ⟨_, rfl, h⟩
theorem enum_tuple {prog : Program} {w : World} {A : Around} {E : Value → Shared → Prop} {s : Shared} {t : Addr} {items : Array Value} {Q : Value → Shared → Prop} (ht : s.heap.IsTuple t items)
    (h : ∀ h', IsEnum h' (s.heap.objs.size + 1) s.heap.objs.size 0 .none → h'.IsTupleIter s.heap.objs.size t 0 → (∀ b o, s.heap.get? b = some o → h'.get? b = some o) → Q (.ref (s.heap.objs.size + 1)) { s with heap := h' }) :
    wpAny (model prog w) A (call (.type "enumerate") [.ref t]) Q E s := by
  let oi : Obj := { cls := .type "tuple_iterator", data := .fields #[.ref t, .int 0 0] }
  have B := begins_tuple t items
  refine callType_new F.called_enumerate (by decide) (F.typeCall_enumerate_1 _) (F.newCall_enumerate_1 _) (fun obj => F.args_object_init_2 obj _) F.entry_enumerate_new (enum_made B) ⟨ht, ?_⟩
  have z1 : (s.heap.push oi).objs.size = s.heap.objs.size + 1 := Heap.size_push ..
  have z2 := Heap.get?_push_size (s.heap.push oi) (o := { cls := .type "enumerate", data := .fields #[.none, .bool false, .ref s.heap.objs.size, rawInt 0, .none, .none] }) rfl
  show _ ∧ _
  rw [z1]
  rw [z1] at z2
  exact ⟨⟨_, z2, rfl⟩, h _ z2 ⟨_, Heap.get?_push_of_some _ (Heap.get?_push_size _ rfl), rfl, rfl⟩ fun b o e => Heap.get?_push_of_some _ (Heap.get?_push_of_some _ e)⟩

/-- the tuple at a, each item with its place in a new pair -/
def IteT (K : PySem.W.Frag) (a : Addr) : It where
  go i H := ∃ (xs : List V) (x : V), SqT K H a xs ∧ xs[i]? = some x
  yld i H v H' := ∃ t x, v = .ref t ∧ H t = none ∧ H' = upd H t (.tup [.int (i : Nat), x]) ∧ ∀ xs, SqT K H a xs → xs[i]? = some x
  stop i H := ∃ xs : List V, SqT K H a xs ∧ xs.length = i
theorem turn_enumT {P : Program} {w : World} {K : PySem.W.Frag} {elts : List Expr} {kk : Nat} {tpos : Pos} (a e it : Addr) (nie : e ≠ it) (nai : a ≠ it) (nae : a ≠ e) :
    Turn P w K (.Tuple elts kk tpos) (IteT K a) [e, it] e (fun i h => (∃ old, IsEnum h e it ((i : Nat) : Int) old) ∧ h.IsTupleIter it a i) where
  mem := by simp
  obj := fun i h st b hb => by
    obtain ⟨⟨old, he⟩, ⟨o, ho, hc, hd⟩⟩ := st
    rcases (by simpa using hb : b = e ∨ b = it) with z | z
    · rw [z]; exact ⟨_, he, fun v q => nomatch q⟩
    · rw [z]; exact ⟨o, ho, fun v q => by rw [hd] at q; cases q⟩
  keep := fun i h h' st k => by
    obtain ⟨⟨old, he⟩, hi⟩ := st
    exact ⟨⟨old, k e (by simp) _ he⟩, hi.at fun o q => k it (by simp) o q⟩
  item := by
    intro X hP hw hK hc i pins s σ H E I hf st hg
    subst hP hw hK
    obtain ⟨⟨old, he⟩, hit⟩ := st
    obtain ⟨xs, x, hq, hx⟩ := hg
    obtain ⟨its, rv, ht, -⟩ := I.tuple hq
    obtain ⟨u, hu, ru⟩ := rv.get hx
    have lte : e < s.heap.objs.size := Heap.lt_size he
    have lti : it < s.heap.objs.size := by
      obtain ⟨_, q, _⟩ := hit
      exact Heap.lt_size q
    have hlen : i < its.toArray.size := by
      have := (List.getElem?_eq_some_iff.mp hu).1
      simpa using this
    refine wpAny_pyNext_enum_itemD (Draws.tuple (prog := X.prog) (w := X.w) (A := X.A.in1) (I.ok.hd hc) it a nai its.toArray) he ⟨hit, ht⟩ hlen nie (by simp [nie, Ne.symm nae]) fun x' h' tk hP ho hst hT hsz hk => ?_
    have ex : x' = u := by
      have q : its.toArray[i]? = some x' := hP
      have q2 : its.toArray[i]? = some u := by simpa using hu
      exact Option.some.inj (q.symm.trans q2)
    subst ex
    refine ⟨_, rfl, wpAny_letOwnedTupleGo_enum (s := { s with heap := h', toks := tk + 1 }) ho fun h'' he' sb => ?_⟩
    have hT2 : h''.get? s.heap.objs.size = some { cls := .type "tuple", data := .seq #[.int i tk, x'] } := (sb.2 _ (Nat.ne_of_gt lte)).trans hT
    have new : ObjOk X.prog X.w (upd H s.heap.objs.size (.tup [.int (i : Nat), x])) h'' s.heap.objs.size (.tup [.int (i : Nat), x]) :=
      ⟨by show 2 ≤ sizeLine; decide, [.int i tk, x'], .cons ⟨_, rfl⟩ (.cons ru .nil), ⟨_, hT2, rfl, _, rfl⟩⟩
    have J := I.turnedNew (t' := tk + 1) (ch := [e, it]) (h' := h'') (fun b ob hb q => (sb.2 b (fun z => hb (by simp [z]))).trans (hk b ob (fun z => hb (by simp [z])) (fun z => hb (by simp [z])) q)) hf (Nat.le_refl _) new
    refine ⟨.ref s.heap.objs.size, _, J, rfl, ⟨_, x, rfl, I.hok.fresh (Nat.le_refl _), rfl, fun ys hy => by rw [I.tuple_inj hy hq]; exact hx⟩, ⟨⟨x', ?_⟩, hst.1.at fun o q => (sb.2 it (Ne.symm nie)).trans q⟩, fun b hb => ?_⟩
    · have e1 : ((i + 1 : Nat) : Int) = (i : Int) + 1 := by omega
      rw [e1]
      exact he'
    · have hb' : b < s.heap.objs.size := by
        rcases (by simpa using hb : b = e ∨ b = it) with z | z
        · rw [z]; exact lte
        · rw [z]; exact lti
      rw [upd_ne (Nat.ne_of_lt hb')]
      exact (hf b hb).1
  done := by
    intro X hP hw hK hc i pins s σ H E I hf st hg
    subst hP hw hK
    obtain ⟨⟨old, he⟩, hit⟩ := st
    obtain ⟨xs, hq, hx⟩ := hg
    obtain ⟨its, rv, ht, -⟩ := I.tuple hq
    obtain ⟨f0, f1, f2, f3, f4, f5⟩ := hf it (by simp)
    have hl := rv.length
    have ei : i = its.toArray.size := by
      rw [List.size_toArray]
      omega
    exact wpAny_pyNext_enum_endD (Draws.tuple (prog := X.prog) (w := X.w) (A := X.A.in1) (I.ok.hd hc) it a nai its.toArray) he ⟨ei ▸ hit, ht⟩ fun h' eb => ⟨rfl, I.turned (t' := s.toks) (fun b o hb q => eb b o hb q) f0 f1 f3 f4 f5⟩
  self := fun A i s Q E st h => let ⟨⟨_, he⟩, _⟩ := st; wpAny_pyIter_enum he h
def iEnumT (K : PySem.W.Frag) (ta : TA) : TI := fun σ H R => ta σ H fun vs H1 => ∃ a xs, vs = [.ref a] ∧ SqT K H1 a xs ∧ R (IteT K a) H1
theorem pi_enumT {X : Cx} {e : Expr} {ta : TA} {p pos tpos : Pos} {elts : List Expr} {kk : Nat} (hg : Gl X "enumerate") (hm : X.mg "enumerate" = none) (ha : PA X [e] ta) (hs : starEach [e] X.env = [(false, eval e X.env)] := by rfl) :
    PI X (.Tuple elts kk tpos) (.Call (.Name "enumerate" p) [e] [] pos) (iEnumT X.K ta) := by
  refine ⟨fun pins s σ H R I h => ?_⟩
  refine PyProof.Rows.Call_ (ld_blt I hg hm PyProof.Rows.boot_enumerate (PyProof.Rows.callWith_type1 (thn (ha.run pos pins s σ H _ I h) fun us s1 ⟨vs, H1, I1, r1, q1⟩ => ?_) hs rfl))
  obtain ⟨a, xs, ex, hq, q⟩ := q1
  subst ex
  cases r1 with
  | cons r rr =>
    cases rr
    cases r
    obtain ⟨its, rv, ht, -⟩ := I1.tuple hq
    have lta : a < s1.heap.objs.size := ht.lt
    refine enum_tuple ht fun h' he hit hk => wpAny_pyIter_enum he ?_
    have I2 : Inv X pins σ H1 { s1 with heap := h' } := I1.kept (t' := s1.toks) hk
    refine ⟨s1.heap.objs.size + 1, [s1.heap.objs.size + 1, s1.heap.objs.size], _, _, H1, rfl, I2, turn_enumT a (s1.heap.objs.size + 1) s1.heap.objs.size (Nat.succ_ne_self _) (Nat.ne_of_lt lta) (Nat.ne_of_lt (Nat.lt_succ_of_lt lta)), ⟨⟨.none, he⟩, hit⟩, fun b hb => ?_, q⟩
    have hle : s1.heap.objs.size ≤ b := by
      rcases (by simpa using hb : b = s1.heap.objs.size + 1 ∨ b = s1.heap.objs.size) with z | z
      · rw [z]; exact Nat.le_add_right _ _
      · rw [z]; exact Nat.le_refl _
    exact I1.fpOk hle (I1.hok.fresh hle)
/-- a loop over enumerate(tuple) -/
theorem for_enumT {K : PySem.W.Frag} {a : Addr} {xs : List V} {g : TG} {tb : TS} {D : Ends} {σ : L2.St} {H : Hp} (Pv : Nat → L2.St → Hp → Prop) (h0 : Pv 0 σ H) (hl : ∀ i σ H, i ≤ xs.length → Pv i σ H → SqT K H a xs)
    (hs : ∀ i x t σ H, xs[i]? = some x → Pv i σ H → H t = none → g (.ref t) σ (upd H t (.tup [.int (i : Nat), x])) fun σ2 H2 => tb { D with nx := Pv (i + 1), ct := Pv (i + 1), bk := D.nx } σ2 H2) (hd : ∀ σ H, Pv xs.length σ H → D.nx σ H) :
    ∃ W : Nat → Nat → L2.St → Hp → Prop, (∃ m, W 0 m σ H) ∧ ∀ i m σ H, W i m σ H →
      ((IteT K a).stop i H ∧ D.nx σ H) ∨ ((IteT K a).go i H ∧ ∃ N : L2.St → Hp → Prop, (∀ σ' H', N σ' H' → ∃ m', m' < m ∧ W (i + 1) m' σ' H') ∧ ∀ x H', (IteT K a).yld i H x H' → g x σ H' fun σ2 H2 => tb { D with nx := N, ct := N, bk := D.nx } σ2 H2) := by
  refine ⟨fun i m σ H => m = xs.length - i ∧ i ≤ xs.length ∧ Pv i σ H, ⟨_, rfl, Nat.zero_le _, h0⟩, ?_⟩
  rintro i m σ H ⟨rfl, hi, p⟩
  have q := hl i σ H hi p
  by_cases lt : i < xs.length
  · refine .inr ⟨⟨xs, xs[i], q, List.getElem?_eq_getElem lt⟩, Pv (i + 1), fun σ' H' p' => ⟨xs.length - (i + 1), by omega, rfl, lt, p'⟩, fun x H' y => ?_⟩
    obtain ⟨t, x', rfl, ht, rfl, f⟩ := y
    exact hs i x' t σ H (f xs q) p ht
  · have e : i = xs.length := by omega
    subst e
    exact .inl ⟨⟨xs, q, rfl⟩, hd σ H p⟩

/-! ### list.extend(tuple) -/
def rExtT (K : PySem.W.Frag) : V → List V → Hp → VK → Prop := fun x vs H Q => ∃ l b xs zs, x = .ref l ∧ vs = [.ref b] ∧ H l = some (.lst xs) ∧ SqT K H b zs ∧ xs.length + zs.length ≤ sizeLine ∧ Q .non (upd H l (.lst (xs ++ zs)))
theorem extend_tup (l : Addr) (items : Array Value) (n : Nat) (b : Addr) (items2 : Array Value) (n2 : Nat) (dct : Option Addr) (sl : Array (Option Value)) (hs0 : ¬(!items.isEmpty && Builtin.List.listTooLong (items.size + items2.size)) = true) (hs1 : items.size ≤ sizeLine) (hs2 : items.size + items2.size ≤ sizeLine + 1) :
    Meets (Builtin.«list.extend» ⟨[.ref l, .ref b], []⟩) (fun _ R s => s.heap.get? l = some { cls := .type "list", dict := none, data := .seq items n, slots := #[] } ∧ s.heap.get? b = some { cls := .type "tuple", dict := dct, data := .seq items2 n2, slots := sl } ∧ R (.ok (.ret Value.none)) { s with heap := s.heap.update l (Obj.mapSeq fun x => x ++ items2), toks := s.toks }) :=
  .of_wp fun prog w A R s h => by
    obtain ⟨hp, gs, dr, tk, os⟩ := s
    obtain ⟨hl, hb, h⟩ := h
    have k1 := AutoSeq1.idx_int
    have k2 := AutoSeq1.sub_tuple_tuple
    have k3 := AutoSeq1.sub_list_list
    have k4 := AutoSeq1.sub_tuple_list
    have k5 := AutoSeq1.sub_list_tuple
    have room : (items ++ items2).size ≤ sizeLine + 1 := by
      rw [Array.size_append]
      exact hs2
    wp_walk using (wpAny_updateSeq hl rfl (hz := hs1) (_hz' := room)), AutoSeq1.wpAny_loadPart' hl, AutoSeq1.wpAny_loadPart' hb
    exact ⟨_, rfl, h⟩
theorem mt_extendT {X : Cx} : MtR X "list.extend" (rExtT X.K) := by
  intro pins s σ H x vs v us Q I rx rv h
  obtain ⟨l, b, xs, zs, rfl, rfl, hH, hB, hz, q⟩ := h
  cases rx
  obtain ⟨u, rfl, ru⟩ := rv.one
  cases ru
  obtain ⟨z, its, n, r, hl, e⟩ := I.lstM hH
  obtain ⟨its2, r2, ⟨⟨c2, d2, dt2, sl2⟩, e2, hc2, n2, hd2⟩, hl2⟩ := I.tuple hB
  simp only at hc2 hd2
  subst hc2 hd2
  have lx := r.length
  have lz := r2.length
  have hsz : its.toArray.size + its2.toArray.size ≤ sizeLine := by rw [List.size_toArray, List.size_toArray]; omega
  have nl : ¬ (!its.toArray.isEmpty && Builtin.List.listTooLong (its.toArray.size + its2.toArray.size)) = true := by
    rw [notLongL hsz, Bool.and_false]
    exact Bool.false_ne_true
  refine call_meets F.slot_list_extend ⟨_, e, rfl⟩ F.entry_list_extend (F.args_list_extend_2 _ _) (extend_tup l its.toArray n b its2.toArray n2 d2 sl2 nl (by omega) (by omega)) ⟨e, e2, ?_⟩
  refine ⟨.non, _, I.lset (its' := its ++ its2) hH e (by simp) (r.append r2) ?_, rfl, q⟩
  rw [List.length_append]
  omega
/-! ### zip(tuple, list) -/
/-- the tuple at a and the list at b, the items in new pairs -/
def ItzM (K : PySem.W.Frag) (a b : Addr) : It where
  go i H := ∃ (xs ys : List V) (x y : V), SqT K H a xs ∧ SqL K H b ys ∧ xs[i]? = some x ∧ ys[i]? = some y
  yld i H v H' := ∃ t x y, v = .ref t ∧ H t = none ∧ H' = upd H t (.tup [x, y]) ∧ (∀ xs, SqT K H a xs → xs[i]? = some x) ∧ ∀ ys, SqL K H b ys → ys[i]? = some y
  stop i H := ∃ xs ys : List V, SqT K H a xs ∧ SqL K H b ys ∧ i ≤ xs.length ∧ i ≤ ys.length ∧ (i = xs.length ∨ i = ys.length)
theorem turn_zipM {P : Program} {w : World} {K : PySem.W.Frag} {elts : List Expr} {kk : Nat} {tpos : Pos} {a b z TI TO i1 i2 : Addr} (S : ZipSep2 z TI TO i1 i2 [i1, a] [i2, b]) (nai : a ≠ i1) (nbi : b ≠ i2) :
    Turn P w K (.Tuple elts kk tpos) (ItzM K a b) [z, TI, TO, i1, i2] z (fun i h => IsZip h z TI TO .none ∧ IsTupOf2 h TI (.ref i1) (.ref i2) ∧ (∃ x y, IsTupOf2 h TO x y) ∧ h.IsTupleIter i1 a i ∧ h.IsListIter i2 b i) where
  mem := by simp
  obj := fun i h st c hc => by
    obtain ⟨hz, h1, ⟨x, y, h2⟩, ⟨o1, e1, _, d1⟩, ⟨o2, e2, _, d2⟩⟩ := st
    rcases (by simpa using hc : c = z ∨ c = TI ∨ c = TO ∨ c = i1 ∨ c = i2) with q | q | q | q | q
    · rw [q]; exact ⟨_, hz, fun v q => nomatch q⟩
    · rw [q]; exact ⟨_, h1, fun v q => nomatch q⟩
    · rw [q]; exact ⟨_, h2, fun v q => nomatch q⟩
    · rw [q]; exact ⟨o1, e1, fun v q => by rw [d1] at q; cases q⟩
    · rw [q]; exact ⟨o2, e2, fun v q => by rw [d2] at q; cases q⟩
  keep := fun i h h' st k => by
    obtain ⟨hz, h1, ⟨x, y, h2⟩, h3, h4⟩ := st
    exact ⟨k z (by simp) _ hz, k TI (by simp) _ h1, ⟨x, y, k TO (by simp) _ h2⟩, h3.at fun o q => k i1 (by simp) o q, h4.at fun o q => k i2 (by simp) o q⟩
  item := by
    intro X hP hw hK hc i pins s σ H E I hf st hg
    subst hP hw hK
    obtain ⟨hz, h1, ⟨x0, y0, h2⟩, h3, h4⟩ := st
    obtain ⟨xs, ys, x, y, hqx, hqy, hx, hy⟩ := hg
    obtain ⟨its, rv, ht, -⟩ := I.tuple hqx
    obtain ⟨its2, rv2, hl, -⟩ := I.list hqy
    obtain ⟨u, hu, ru⟩ := rv.get hx
    obtain ⟨u2, hu2, ru2⟩ := rv2.get hy
    have hzl : z < s.heap.objs.size := Heap.lt_size hz
    have n1 : i < its.toArray.size := by simpa using (List.getElem?_eq_some_iff.mp hu).1
    have n2 : i < its2.toArray.size := by simpa using (List.getElem?_eq_some_iff.mp hu2).1
    have D1 := Draws.tuple (prog := X.prog) (w := X.w) (A := X.A.in1) (I.ok.hd hc) i1 a nai its.toArray
    have D2 := Draws.list (prog := X.prog) (w := X.w) (A := X.A.in1) (I.ok.hd hc) i2 b nbi its2.toArray
    refine wpAny_pyNext_zipD2_item S D1 D2 hz h1 h2 ⟨h3, ht⟩ ⟨h4, hl.isList⟩ n1 n2 fun v1 v2 h' tk p1 p2 hz' h2' st1 st2 hT hsz hk => ?_
    have q1 : v1 = u := Option.some.inj ((show its.toArray[i]? = some v1 from p1).symm.trans (by simpa using hu))
    have q2 : v2 = u2 := Option.some.inj ((show its2.toArray[i]? = some v2 from p2).symm.trans (by simpa using hu2))
    subst q1 q2
    refine ⟨_, rfl, wpAny_letOwnedTupleGo_zip (s := { s with heap := h', toks := tk }) hz' fun h'' z'' sb => ?_⟩
    have hT2 : h''.get? s.heap.objs.size = some { cls := .type "tuple", data := .seq #[v1, v2] } := (sb.2 _ (Nat.ne_of_gt hzl)).trans hT
    have new : ObjOk X.prog X.w (upd H s.heap.objs.size (.tup [x, y])) h'' s.heap.objs.size (.tup [x, y]) :=
      ⟨by show 2 ≤ sizeLine; decide, [v1, v2], .cons ru (.cons ru2 .nil), ⟨_, hT2, rfl, _, rfl⟩⟩
    have J := I.turnedNew (t' := tk) (ch := [z, TI, TO, i1, i2]) (h' := h'') (fun c o hb q => (sb.2 c (fun q' => hb (by simp [q']))).trans (hk c o (fun q' => hb (by simp [q'])) (fun q' => hb (by simp [q'])) (fun q' => hb (by simp [q'])) (fun q' => hb (by simp [q'])) q)) hf (Nat.le_refl _) new
    refine ⟨.ref s.heap.objs.size, _, J, rfl, ⟨_, x, y, rfl, I.hok.fresh (Nat.le_refl _), rfl, fun l hl => by rw [I.tuple_inj hl hqx]; exact hx, fun l hl => by rw [I.list_inj hl hqy]; exact hy⟩, ⟨z'', ?_, ⟨v1, v2, ?_⟩, ?_, ?_⟩, fun c hcm => ?_⟩
    · exact (sb.2 _ S.TIz).trans (hk _ _ S.TIz S.TITO S.TIi1 S.TIi2 h1)
    · exact (sb.2 _ S.TOz).trans h2'
    · exact st1.1.at fun o q => (sb.2 _ S.zi1.symm).trans q
    · exact st2.1.at fun o q => (sb.2 _ S.zi2.symm).trans q
    · have lt : c < s.heap.objs.size := by
        rcases (by simpa using hcm : c = z ∨ c = TI ∨ c = TO ∨ c = i1 ∨ c = i2) with q | q | q | q | q
        · rw [q]; exact hzl
        · rw [q]; exact Heap.lt_size h1
        · rw [q]; exact Heap.lt_size h2
        · rw [q]; obtain ⟨_, e1, _⟩ := h3; exact Heap.lt_size e1
        · rw [q]; obtain ⟨_, e2, _⟩ := h4; exact Heap.lt_size e2
      rw [upd_ne (Nat.ne_of_lt lt)]
      exact (hf c hcm).1
  done := by
    intro X hP hw hK hc i pins s σ H E I hf st hg
    subst hP hw hK
    obtain ⟨hz, h1, ⟨x0, y0, h2⟩, h3, h4⟩ := st
    obtain ⟨xs, ys, hqx, hqy, l1, l2, hend⟩ := hg
    obtain ⟨its, rv, ht, -⟩ := I.tuple hqx
    obtain ⟨its2, rv2, hl, -⟩ := I.list hqy
    have m1 := rv.length
    have m2 := rv2.length
    have D1 := Draws.tuple (prog := X.prog) (w := X.w) (A := X.A.in1) (I.ok.hd hc) i1 a nai its.toArray
    have D2 := Draws.list (prog := X.prog) (w := X.w) (A := X.A.in1) (I.ok.hd hc) i2 b nbi its2.toArray
    refine wpAny_pyNext_zipD2_end S D1 D2 hz h1 h2 ⟨h3, ht⟩ ⟨h4, hl.isList⟩ (by rw [List.size_toArray]; omega) (by rw [List.size_toArray]; omega) (by rw [List.size_toArray, List.size_toArray]; omega) fun h' tk hk => ⟨rfl, I.turnedL (t' := tk) (ch := [z, TI, TO, i1, i2]) (fun c o hb q =>
      hk c o (fun q' => hb (by simp [q'])) (fun q' => hb (by simp [q'])) (fun q' => hb (by simp [q'])) (fun q' => hb (by simp [q'])) q) hf⟩
  self := fun A i s Q E st h => wpAny_pyIter_zip st.1 h
def iZipM (K : PySem.W.Frag) (ta : TA) : TI := fun σ H R => ta σ H fun vs H1 => ∃ a b xs ys, vs = [.ref a, .ref b] ∧ ((SqT K H1 a xs ∧ SqT K H1 b ys ∧ R (RZ.ItzT K a b) H1) ∨ (SqT K H1 a xs ∧ SqL K H1 b ys ∧ R (ItzM K a b) H1))
theorem pi_zipM {X : Cx} {e e2 : Expr} {ta : TA} {p pos tpos : Pos} {elts : List Expr} {kk : Nat} (hg : Gl X "zip") (hm : X.mg "zip" = none) (ha : PA X [e, e2] ta)
    (hs : starEach [e, e2] X.env = (false, eval e X.env) :: starEach [e2] X.env := by rfl) (hpl : (backTo pos (starEach [e2] X.env)).any (·.1) = false := by rfl) :
    PI X (.Tuple elts kk tpos) (.Call (.Name "zip" p) [e, e2] [] pos) (iZipM X.K ta) := by
  refine ⟨fun pins s σ H R I h => ?_⟩
  refine PyProof.Rows.Call_ (ld_blt I hg hm PyProof.Rows.boot_zip (PyProof.Rows.callWith_type1 (thn (ha.run pos pins s σ H _ I h) fun us s1 ⟨vs, H1, I1, r1, q1⟩ => ?_) hs hpl))
  obtain ⟨a, b, xs, ys, ex, q1⟩ := q1
  subst ex
  cases r1 with
  | cons r rr =>
    cases rr with
    | cons r' rr =>
      cases rr
      cases r
      cases r'
      have fresh : ∀ c, c ∈ [s1.heap.objs.size + 4, s1.heap.objs.size + 2, s1.heap.objs.size + 3, s1.heap.objs.size, s1.heap.objs.size + 1] → FpOk X pins H1 c := fun c hcm => by
        have le : s1.heap.objs.size ≤ c := by
          rcases (by simpa using hcm : c = s1.heap.objs.size + 4 ∨ c = s1.heap.objs.size + 2 ∨ c = s1.heap.objs.size + 3 ∨ c = s1.heap.objs.size ∨ c = s1.heap.objs.size + 1) with z | z | z | z | z <;> rw [z] <;> first | exact Nat.le_add_right _ _ | exact Nat.le_refl _
        exact I1.fpOk le (I1.hok.fresh le)
      rcases q1 with ⟨hqx, hqy, q⟩ | ⟨hqx, hqy, q⟩
      · obtain ⟨its, rv, p1, _⟩ := I1.tuple hqx
        obtain ⟨its2, rv2, p2, _⟩ := I1.tuple hqy
        obtain ⟨o1, ho1, _⟩ := id p1
        obtain ⟨o2, ho2, _⟩ := id p2
        refine RZ.call_zipT (show s1.heap.IsTuple a its.toArray from p1) (show s1.heap.IsTuple b its2.toArray from p2) fun h' hz hTI hTO h1 h2 hsz hk => wpAny_pyIter_zip hz ?_
        have I2 : Inv X pins σ H1 { s1 with heap := h' } := I1.kept (t' := s1.toks) hk
        exact ⟨s1.heap.objs.size + 4, [s1.heap.objs.size + 4, s1.heap.objs.size + 2, s1.heap.objs.size + 3, s1.heap.objs.size, s1.heap.objs.size + 1], _, _, H1, rfl, I2, RZ.turn_zipT (PySem.W.ktu_apart s1.heap.objs.size a b (Heap.lt_size ho1) (Heap.lt_size ho2)), ⟨hz, hTI, ⟨_, _, hTO⟩, h1, h2⟩, fresh, q⟩
      · obtain ⟨its, rv, p1, _⟩ := I1.tuple hqx
        obtain ⟨its2, rv2, p2, _⟩ := I1.list hqy
        have la : a < s1.heap.objs.size := p1.lt
        have lb : b < s1.heap.objs.size := p2.lt
        refine zip_begins2 (begins_tuple a its.toArray) (begins_list b its2.toArray) p1 p2.isList fun h' hz hTI hTO h1 h2 hsz hk => wpAny_pyIter_zip hz ?_
        have I2 : Inv X pins σ H1 { s1 with heap := h' } := I1.kept (t' := s1.toks) hk
        have S := zip_sep2 (N := s1.heap.objs.size) (fp1 := [a]) (fp2 := [b]) (fun c hc => by rw [List.mem_singleton.mp hc]; exact la) (fun c hc => by rw [List.mem_singleton.mp hc]; exact lb)
        exact ⟨s1.heap.objs.size + 4, [s1.heap.objs.size + 4, s1.heap.objs.size + 2, s1.heap.objs.size + 3, s1.heap.objs.size, s1.heap.objs.size + 1], _, _, H1, rfl, I2, turn_zipM S (Nat.ne_of_lt la) (Nat.ne_of_lt (Nat.lt_succ_of_lt lb)), ⟨hz, hTI, ⟨_, _, hTO⟩, ⟨_, h1, rfl, rfl⟩, ⟨_, h2, rfl, rfl⟩⟩, fresh, q⟩

/-! ### the layer's rules with the written part named (a comprehension's block has it by another term) -/
section
variable {X : Cx} (K : PySem.W.Frag) (hK : X.K = K)
theorem k_ix_tup : X.K = K → IxR X (rIxT K) := fun h => h ▸ ix_tup
theorem k_ix_list : X.K = K → IxR X (rIxL K) := fun h => h ▸ ix_list
theorem k_len : X.K = K → CallR X (.builtin "len") (fun xs H Q => ∃ p ys, xs = [.ref p] ∧ (SqL K H p ys ∨ SqT K H p ys) ∧ Q (.int ys.length) H) := fun h => h ▸ call_len_seq
theorem k_in : X.K = K → OpR X (compareOp .In) (rIn K false) := fun h => h ▸ op_in_seq
theorem k_notIn : X.K = K → OpR X (compareOp .NotIn) (rIn K true) := fun h => h ▸ op_notIn_seq
theorem k_all (hc : X.calm = true) : X.K = K → CallR X (.builtin "all") (rAll K) := fun h => h ▸ cr_all hc
theorem k_any (hc : X.calm = true) : X.K = K → CallR X (.builtin "any") (rAny K) := fun h => h ▸ cr_any hc
theorem k_sl_tup : X.K = K → SlR X (rSlA K) := fun h => h ▸ sl_tupA
theorem k_sl_list : X.K = K → SlR X (rSlL K) := fun h => h ▸ sl_list
theorem k_isi : X.K = K → CallR X (.builtin "isinstance") (rIsi K) := fun h => h ▸ call_isi
theorem k_isiT : X.K = K → CallR X (.builtin "isinstance") (rIsiT K) := fun h => h ▸ call_isiT
theorem k_catA : X.K = K → OpR X (binaryOp .Add) (rCatA K) := fun h => h ▸ op_catA
theorem k_eqD (hu : X.A.units + 64 < cLine) : X.K = K → OpR X (compareOp .Eq) (rEqD K) := fun h => h ▸ op_eqD hu
theorem k_neD (hu : X.A.units + 64 < cLine) : X.K = K → OpR X (compareOp .NotEq) (rNeD K) := fun h => h ▸ op_neD hu
theorem k_min (hc : X.calm = true) : X.K = K → CallR X (.builtin "min") (rMin K) := fun h => h ▸ cr_min hc
theorem k_index : X.K = K → MtR X "list.index" (rIndex K) := fun h => h ▸ mt_index
theorem k_sortedI : X.K = K → CallR X (.builtin "sorted") (rSortedI K) := fun h => h ▸ cr_sortedI
theorem k_extT : X.K = K → MtR X "list.extend" (rExtT K) := fun h => h ▸ mt_extendT
theorem k_tup {tg l : Expr} {tl : TE} (hl : PE X l tl) : X.K = K → PI X tg l (iTup K tl) := fun h => h ▸ pi_tup hl
theorem k_list {tg l : Expr} {tl : TE} (hl : PE X l tl) : X.K = K → PI X tg l (iList K tl) := fun h => h ▸ pi_list hl
theorem k_zip {e e2 : Expr} {ta : TA} {p pos tpos : Pos} {elts : List Expr} {kk : Nat} (hg : Gl X "zip") (hm : X.mg "zip" = none) (ha : PA X [e, e2] ta) : X.K = K → (hs : starEach [e, e2] X.env = (false, eval e X.env) :: starEach [e2] X.env := by rfl) → (hpl : (backTo pos (starEach [e2] X.env)).any (·.1) = false := by rfl) →
    PI X (.Tuple elts kk tpos) (.Call (.Name "zip" p) [e, e2] [] pos) (iZipM K ta) := fun h hs hpl => h ▸ pi_zipM hg hm ha hs hpl
theorem k_enum {e : Expr} {ta : TA} {p pos tpos : Pos} {elts : List Expr} {kk : Nat} (hg : Gl X "enumerate") (hm : X.mg "enumerate" = none) (ha : PA X [e] ta) : X.K = K → (hs : starEach [e] X.env = [(false, eval e X.env)] := by rfl) →
    PI X (.Tuple elts kk tpos) (.Call (.Name "enumerate" p) [e] [] pos) (iEnumT K ta) := fun h hs => h ▸ pi_enumT hg hm ha hs
theorem k_tupleOf {a : Expr} {ta : TE} {p pos : Pos} (hg : Gl X "tuple") (hm : X.mg "tuple" = none) (ha : PE X a ta) : X.K = K → (na : starEach [a] X.env = (false, eval a X.env) :: starEach [] X.env := by rfl) → PE X (.Call (.Name "tuple" p) [a] [] pos) (tThen ta (kTup K)) :=
  fun h na => h ▸ pe_tupleOf hg hm ha na
theorem k_star {e : Expr} {es : List Expr} {p : Pos} {te : TE} {t : TA} (he : PE X e te) (hr : PA X es t) : X.K = K → (hs : starEach (.Starred e p :: es) X.env = (true, eval e X.env) :: starEach es X.env := by rfl) → PA X (.Starred e p :: es) (StX.tStar K te t) := fun h hs => h ▸ StX.pa_star he hr hs
end
end WI
set_option maxRecDepth 100000
/-! What the usual expressions come to: comprehensions, all, any, tuple(..), len, items. -/
namespace WI
open PySem PySem.Spec L2 LamX RZ

/-- a list (tracked) of things -/
def LL {α : Type} (P : α → V → Hp → Prop) (ds : List α) (v : V) (H : Hp) : Prop := ∃ a vs, v = .ref a ∧ H a = some (.lst vs) ∧ Paired (fun x d => P d x H) vs ds
def eqI : Int → V → Hp → Prop := fun n v _ => v = .int n
def eqB : Bool → V → Hp → Prop := fun b v _ => v = .bl b
theorem stb_eqI {n : Int} : Stb (eqI n) := fun _ _ _ h _ => h
theorem stb_eqB {n : Bool} : Stb (eqB n) := fun _ _ _ h _ => h
section
variable {T : LTab} {K : PySem.W.Frag} {H H' H1 : Hp}
theorem LL.ex {α : Type} {P : α → V → Hp → Prop} (sP : ∀ d, Stb (P d)) {ds : List α} {v : V} (h : LL P ds v H) (e : Ex T H H') : LL P ds v H' := by
  obtain ⟨a, vs, e1, e2, e3⟩ := h
  exact ⟨a, vs, e1, e.lst e2, paired_mono (fun x d q => (sP d).ex q e) e3⟩
theorem paired_vint {l : List V} {ns : List Int} (h : Paired (fun v n => v = V.int n) l ns) : l = ns.map V.int := paired_map h
theorem IT.tt {ns : List Int} {v : V} (h : IT K ns v H) : TT' K eqI ns v H := by
  obtain ⟨a, e, h⟩ := h
  exact ⟨a, _, e, h, paired_of_map (F := fun v d => eqI d v H) (f := V.int) (fun _ => rfl) ns⟩
theorem TT'.it {ns : List Int} {v : V} (h : TT' K eqI ns v H) : IT K ns v H := by
  obtain ⟨a, vs, e, h, p⟩ := h
  have : vs = ns.map V.int := paired_map p
  subst this
  exact ⟨a, e, h⟩

theorem filt_true {α : Type} (l : List α) : l.filter (fun _ => true) = l := List.filter_eq_self.mpr fun _ _ => rfl
/-! ### comprehensions -/
def Cw {α : Type} (T : LTab) (Pe : α → V → Hp → Prop) (H1 : Hp) (D : Addr) (zs : List α) (H' : Hp) : Prop := Ex T H1 H' ∧ H1 D = none ∧ ∃ ys, H' D = some (.lst ys) ∧ Paired (fun y d => Pe d y H') ys zs
theorem cw_start {α : Type} {Pe : α → V → Hp → Prop} {D : Addr} (h : H1 D = none) : Cw T Pe H1 D [] (upd H1 D (.lst [])) := ⟨Ex.new h, h, [], upd_same, .nil⟩
theorem cw_ex {α : Type} {Pe : α → V → Hp → Prop} (sPe : ∀ d, Stb (Pe d)) {D : Addr} {zs : List α} (c : Cw T Pe H1 D zs H) (e : Ex T H H') : Cw T Pe H1 D zs H' := by
  obtain ⟨c1, c2, ys, c3, c4⟩ := c
  exact ⟨c1.trans e, c2, ys, e.lst c3, paired_mono (fun x d q => (sPe d).ex q e) c4⟩
theorem cw_add {α : Type} {Pe : α → V → Hp → Prop} (sPe : ∀ d, Stb (Pe d)) {D : Addr} {zs : List α} {d : α} {y : V} (c : Cw T Pe H1 D zs H) (p : Pe d y H) (hz : zs.length < 40000) :
    ∃ acc, H D = some (.lst acc) ∧ acc.length < sizeLine ∧ Cw T Pe H1 D (zs ++ [d]) (upd H D (.lst (acc ++ [y]))) := by
  obtain ⟨c1, c2, ys, c3, c4⟩ := c
  have hl := Paired.length c4
  have k : Tk H (upd H D (.lst (ys ++ [y]))) := Tk.upd c3
  refine ⟨ys, c3, Nat.lt_of_lt_of_le (by omega : ys.length < 40000) (by decide), c1.mut c2 c3, c2, ys ++ [y], upd_same, ?_⟩
  exact Paired.snoc (paired_mono (fun x d q => sPe d x _ _ q k) c4) (sPe d y _ _ p k)
theorem cw_turn {α : Type} {Pe : α → V → Hp → Prop} (sPe : ∀ d, Stb (Pe d)) {D : Addr} {zs zs' : List α} {d : α} {b0 : Bool} {tt : L2.TT} {te : TE} {σ2 : L2.St} (c : Cw T Pe H1 D zs H) (hz : zs.length < 40000) (hzs : zs' = if b0 = true then zs ++ [d] else zs)
    (ht : EvT T tt σ2 H b0) (he : b0 = true → Ev T te σ2 H (Pe d)) :
    tt σ2 H fun b H3 => if b = true then te σ2 H3 fun y H4 => ∃ acc, H4 D = some (.lst acc) ∧ acc.length < sizeLine ∧ Cw T Pe H1 D zs' (upd H4 D (.lst (acc ++ [y]))) else Cw T Pe H1 D zs' H3 := by
  subst hzs
  refine ht.go fun H3 e3 => ?_
  cases b0 with
  | true =>
    show te σ2 H3 fun y H4 => _
    refine ((he rfl).mono e3).go fun y H4 e4 p => ?_
    exact cw_add sPe (cw_ex sPe c (e3.trans e4)) p hz
  | false => exact cw_ex sPe c e3
theorem et_yes {σ : L2.St} : EvT T tYes σ H true := fun H1 _ _ q => q H1 (Ex.refl H1)
theorem take_succ_filter {α : Type} {ds : List α} {i : Nat} {d : α} (h : ds[i]? = some d) (f : α → Bool) : (ds.take (i + 1)).filter f = if f d = true then (ds.take i).filter f ++ [d] else (ds.take i).filter f := by
  rw [List.take_add_one, h, List.filter_append]
  by_cases q : f d = true
  · rw [if_pos q]; simp [q]
  · rw [if_neg q]; simp [q]
theorem filter_take_len {α : Type} {ds : List α} {i : Nat} (f : α → Bool) (h : ds.length ≤ 40000) (hi : i < ds.length) : ((ds.take i).filter f).length < 40000 := by
  have h1 := List.length_filter_le f (ds.take i)
  rw [List.length_take] at h1
  omega

/-- over a tuple, the target a name -/
theorem ev_lcT {α β : Type} {tl te : TE} {tt : L2.TT} {σ : L2.St} {j : Nat} {vs : List Nat} {Ps : α → V → Hp → Prop} {Pe : α → V → Hp → Prop} {ds : List α} (f : α → Bool) (h : Ev T tl σ H (TT' K Ps ds)) (sPe : ∀ d, Stb (Pe d)) (hz : ds.length ≤ 40000)
    (hw : ∀ x, wipe ((wipe σ vs).set j (some x)) vs = wipe σ vs)
    (ht : ∀ d x H1, d ∈ ds → Ex T H H1 → Ps d x H1 → EvT T tt ((wipe σ vs).set j (some x)) H1 (f d))
    (he : ∀ d x H1, d ∈ ds → Ex T H H1 → Ps d x H1 → f d = true → Ev T te ((wipe σ vs).set j (some x)) H1 (Pe d)) :
    Ev T (tLc (iTup K tl) (gName j) tt te vs) σ H (LL Pe (ds.filter f)) := fun H0 e Q q => h H0 e _ fun v H1 e1 hv => by
  obtain ⟨a, xs, rfl, hx, hp⟩ := hv
  have hl := Paired.length hp
  refine ⟨a, rfl, ⟨xs, hx⟩, fun D hD => lc_tup (K := K) (a := a) (xs := xs) (fun i H' => Cw T Pe H1 D ((ds.take i).filter f) H') (by simpa using cw_start hD) (fun i H' _ p => p.1.sqt hx) (fun i x H' hi p => ?_) (fun H' p => ?_)⟩
  · obtain ⟨d, hd, pd⟩ := paired_get hp hi
    have hil := (List.getElem?_eq_some_iff.mp hd).1
    have hm := List.mem_of_getElem? hd
    exact ⟨hw x, cw_turn sPe p (filter_take_len f hz hil) (take_succ_filter hd f) ((ht d x H1 hm (e.trans e1) pd).mono p.1) fun hf => (he d x H1 hm (e.trans e1) pd hf).mono p.1⟩
  · obtain ⟨c1, c2, ys, c3, c4⟩ := p
    rw [hl, List.take_length] at c4
    exact q _ H' (e1.trans c1) ⟨D, ys, rfl, c3, c4⟩
/-- over a list, the target a name -/
theorem ev_lcL {α β : Type} {tl te : TE} {tt : L2.TT} {σ : L2.St} {j : Nat} {vs : List Nat} {Ps : α → V → Hp → Prop} {Pe : α → V → Hp → Prop} {ds : List α} (f : α → Bool) (h : Ev T tl σ H (LL Ps ds)) (sPe : ∀ d, Stb (Pe d)) (hz : ds.length ≤ 40000)
    (hw : ∀ x, wipe ((wipe σ vs).set j (some x)) vs = wipe σ vs)
    (ht : ∀ d x H1, d ∈ ds → Ex T H H1 → Ps d x H1 → EvT T tt ((wipe σ vs).set j (some x)) H1 (f d))
    (he : ∀ d x H1, d ∈ ds → Ex T H H1 → Ps d x H1 → f d = true → Ev T te ((wipe σ vs).set j (some x)) H1 (Pe d)) :
    Ev T (tLc (iList K tl) (gName j) tt te vs) σ H (LL Pe (ds.filter f)) := fun H0 e Q q => h H0 e _ fun v H1 e1 hv => by
  obtain ⟨a, xs, rfl, hx, hp⟩ := hv
  have hl := Paired.length hp
  refine ⟨a, rfl, ⟨xs, .of hx⟩, fun D hD => lc_list (K := K) (a := a) (xs := xs) (fun i H' => Cw T Pe H1 D ((ds.take i).filter f) H') (by simpa using cw_start hD) (fun i H' _ p => .of (p.1.lst hx)) (fun i x H' hi p => ?_) (fun H' p => ?_)⟩
  · obtain ⟨d, hd, pd⟩ := paired_get hp hi
    have hil := (List.getElem?_eq_some_iff.mp hd).1
    have hm := List.mem_of_getElem? hd
    exact ⟨hw x, cw_turn sPe p (filter_take_len f hz hil) (take_succ_filter hd f) ((ht d x H1 hm (e.trans e1) pd).mono p.1) fun hf => (he d x H1 hm (e.trans e1) pd hf).mono p.1⟩
  · obtain ⟨c1, c2, ys, c3, c4⟩ := p
    rw [hl, List.take_length] at c4
    exact q _ H' (e1.trans c1) ⟨D, ys, rfl, c3, c4⟩
/-- over range(n) -/
theorem ev_lcR {te : TE} {ta : TA} {tt : L2.TT} {σ : L2.St} {j : Nat} {vs : List Nat} {Pe : Nat → V → Hp → Prop} {n : Nat} (f : Nat → Bool) (h : EvA T ta σ H (fun xs _ => xs = [.int (n : Int)])) (sPe : ∀ d, Stb (Pe d)) (hz : n ≤ 40000)
    (hw : ∀ x, wipe ((wipe σ vs).set j (some x)) vs = wipe σ vs)
    (ht : ∀ (i : Nat) H1, i < n → Ex T H H1 → EvT T tt ((wipe σ vs).set j (some (.int (i : Int)))) H1 (f i))
    (he : ∀ (i : Nat) H1, i < n → Ex T H H1 → f i = true → Ev T te ((wipe σ vs).set j (some (.int (i : Int)))) H1 (Pe i)) :
    Ev T (tLc (iRng1 ta) (gName j) tt te vs) σ H (LL Pe ((List.range n).filter f)) := fun H0 e Q q => h H0 e _ fun v H1 e1 hv => by
  subst hv
  refine ⟨n, rfl, by omega, by omega, fun D hD => lc_range (lo := 0) (n := (n : Int).toNat) (fun i H' => Cw T Pe H1 D (((List.range n).take i).filter f) H') (by simpa using cw_start hD) (fun i H' hi p => ?_) (fun H' p => ?_)⟩
  · have hi' : i < n := by omega
    have hd : (List.range n)[i]? = some i := by rw [List.getElem?_range hi']
    have e0 : (0 : Int) + (i : Int) = (i : Int) := Int.zero_add _
    show wipe ((wipe σ vs).set j (some (.int (0 + (i : Int))))) vs = wipe σ vs ∧ _
    rw [e0]
    exact ⟨hw _, cw_turn sPe p (filter_take_len f (by rw [List.length_range]; exact hz) (by rw [List.length_range]; exact hi')) (take_succ_filter hd f) ((ht i H1 hi' (e.trans e1)).mono p.1) fun hf => (he i H1 hi' (e.trans e1) hf).mono p.1⟩
  · obtain ⟨c1, c2, ys, c3, c4⟩ := p
    rw [Int.toNat_natCast, List.take_of_length_le (by rw [List.length_range]; exact Nat.le_refl _)] at c4
    exact q _ H' (e1.trans c1) ⟨D, ys, rfl, c3, c4⟩

/-- over zip of a tuple and a tuple or a list, the target two names -/
theorem ev_lcZ {α β : Type} {te : TE} {ta : TA} {tt : L2.TT} {σ : L2.St} {j1 j2 : Nat} {vs : List Nat} {Ps : α → V → Hp → Prop} {Pt : β → V → Hp → Prop} {Pe : α × β → V → Hp → Prop} {ds : List α} {es : List β} (f : α × β → Bool)
    (h : EvA T ta σ H (fun xs H' => ∃ x y, xs = [x, y] ∧ TT' K Ps ds x H' ∧ (TT' K Pt es y H' ∨ LL Pt es y H'))) (sPe : ∀ d, Stb (Pe d)) (hz : (ds.zip es).length ≤ 40000)
    (hw : ∀ x y, wipe (((wipe σ vs).set j1 (some x)).set j2 (some y)) vs = wipe σ vs)
    (ht : ∀ d e' x y H1, (d, e') ∈ ds.zip es → Ex T H H1 → Ps d x H1 → Pt e' y H1 → EvT T tt (((wipe σ vs).set j1 (some x)).set j2 (some y)) H1 (f (d, e')))
    (he : ∀ d e' x y H1, (d, e') ∈ ds.zip es → Ex T H H1 → Ps d x H1 → Pt e' y H1 → f (d, e') = true → Ev T te (((wipe σ vs).set j1 (some x)).set j2 (some y)) H1 (Pe (d, e'))) :
    Ev T (tLc (iZipM K ta) (gTup K 2 (gCons (gName j1) (gCons (gName j2) gNil))) tt te vs) σ H (LL Pe ((ds.zip es).filter f)) := fun H0 e Q q => h H0 e _ fun v H1 e1 hv => by
  obtain ⟨x, y, rfl, ⟨a, xs, rfl, hx, hp⟩, hy⟩ := hv
  have hl := Paired.length hp
  have hlz : (ds.zip es).length = min ds.length es.length := List.length_zip
  -- one turn, wherever the second one stands
  have turn : ∀ (ys : List V) (D t : Addr) (i : Nat) (H' : Hp), H1 D = none → Paired (fun y d => Pt d y H1) ys es → i < (ds.zip es).length → Cw T Pe H1 D (((ds.zip es).take i).filter f) H' → H' t = none → ∀ x' y', xs[i]? = some x' → ys[i]? = some y' →
      gTup K 2 (gCons (gName j1) (gCons (gName j2) gNil)) (.ref t) (wipe σ vs) (upd H' t (.tup [x', y'])) fun σ2 H2 => wipe σ2 vs = wipe σ vs ∧ tt σ2 H2 fun b H3 => if b = true then te σ2 H3 fun y H4 => ∃ acc, H4 D = some (.lst acc) ∧ acc.length < sizeLine ∧ Cw T Pe H1 D (((ds.zip es).take (i + 1)).filter f) (upd H4 D (.lst (acc ++ [y]))) else Cw T Pe H1 D (((ds.zip es).take (i + 1)).filter f) H3 := by
    intro ys D t i H' hD hp2 hlt p ht' x' y' gx gy
    obtain ⟨d, hd, pd⟩ := paired_get hp gx
    obtain ⟨e', he', pe⟩ := paired_get hp2 gy
    have hde : (ds.zip es)[i]? = some (d, e') := by rw [List.getElem?_zip_eq_some]; exact ⟨hd, he'⟩
    refine ⟨t, [x', y'], rfl, .of upd_same, rfl, x', [y'], rfl, y', [], rfl, rfl, ?_⟩
    have hm := List.mem_of_getElem? hde
    have p2 : Cw T Pe H1 D (((ds.zip es).take i).filter f) (upd H' t (.tup [x', y'])) := cw_ex sPe p (Ex.new ht')
    exact ⟨hw _ _, cw_turn sPe p2 (filter_take_len f hz hlt) (take_succ_filter hde f) ((ht d e' _ _ H1 hm (e.trans e1) pd pe).mono p2.1) fun hf => (he d e' _ _ H1 hm (e.trans e1) pd pe hf).mono p2.1⟩
  rcases hy with ⟨b, ys, rfl, hy, hp2⟩ | ⟨b, ys, rfl, hy, hp2⟩
  · have hl2 := Paired.length hp2
    refine ⟨a, b, xs, ys, rfl, .inl ⟨hx, hy, fun D hD => ⟨fun i m H' => m = (ds.zip es).length - i ∧ i ≤ (ds.zip es).length ∧ Cw T Pe H1 D (((ds.zip es).take i).filter f) H', ⟨_, rfl, Nat.zero_le _, by simpa using cw_start hD⟩, ?_⟩⟩⟩
    rintro i m H' ⟨rfl, hi, p⟩
    have qx := p.1.sqt hx
    have qy := p.1.sqt hy
    by_cases hlt : i < (ds.zip es).length
    · have gx : xs[i]? = some (xs[i]'(by omega)) := List.getElem?_eq_getElem (by omega)
      have gy : ys[i]? = some (ys[i]'(by omega)) := List.getElem?_eq_getElem (by omega)
      refine .inr ⟨⟨xs, ys, _, _, qx, qy, gx, gy⟩, fun H'' => Cw T Pe H1 D (((ds.zip es).take (i + 1)).filter f) H'', fun H'' p' => ⟨(ds.zip es).length - (i + 1), by omega, rfl, hlt, p'⟩, fun v H'' yl => ?_⟩
      obtain ⟨t, x', y', rfl, ht', rfl, f1, f2⟩ := yl
      exact turn ys D t i H' hD hp2 hlt p ht' x' y' (f1 _ qx) (f2 _ qy)
    · have ei : i = (ds.zip es).length := by omega
      subst ei
      refine .inl ⟨⟨xs, ys, qx, qy, by omega⟩, ?_⟩
      obtain ⟨c1, c2, zs, c3, c4⟩ := p
      rw [List.take_length] at c4
      exact q _ H' (e1.trans c1) ⟨D, zs, rfl, c3, c4⟩
  · have hl2 := Paired.length hp2
    refine ⟨a, b, xs, ys, rfl, .inr ⟨hx, .of hy, fun D hD => ⟨fun i m H' => m = (ds.zip es).length - i ∧ i ≤ (ds.zip es).length ∧ Cw T Pe H1 D (((ds.zip es).take i).filter f) H', ⟨_, rfl, Nat.zero_le _, by simpa using cw_start hD⟩, ?_⟩⟩⟩
    rintro i m H' ⟨rfl, hi, p⟩
    have qx := p.1.sqt hx
    have qy : SqL K H' b ys := .of (p.1.lst hy)
    by_cases hlt : i < (ds.zip es).length
    · have gx : xs[i]? = some (xs[i]'(by omega)) := List.getElem?_eq_getElem (by omega)
      have gy : ys[i]? = some (ys[i]'(by omega)) := List.getElem?_eq_getElem (by omega)
      refine .inr ⟨⟨xs, ys, _, _, qx, qy, gx, gy⟩, fun H'' => Cw T Pe H1 D (((ds.zip es).take (i + 1)).filter f) H'', fun H'' p' => ⟨(ds.zip es).length - (i + 1), by omega, rfl, hlt, p'⟩, fun v H'' yl => ?_⟩
      obtain ⟨t, x', y', rfl, ht', rfl, f1, f2⟩ := yl
      exact turn ys D t i H' hD hp2 hlt p ht' x' y' (f1 _ qx) (f2 _ qy)
    · have ei : i = (ds.zip es).length := by omega
      subst ei
      refine .inl ⟨⟨xs, ys, qx, qy, by omega, by omega, by omega⟩, ?_⟩
      obtain ⟨c1, c2, zs, c3, c4⟩ := p
      rw [List.take_length] at c4
      exact q _ H' (e1.trans c1) ⟨D, zs, rfl, c3, c4⟩

/-! ### all, any, tuple, len, items -/
section
variable {σ : L2.St} {te ta tb : TE}
theorem ev_all {bs : List Bool} (h : Ev T te σ H (LL eqB bs)) : Ev T (tCB (rAll K) (tCons te tNil)) σ H (fun v _ => v = .bl (bs.all id)) := fun H1 e Q q => h H1 e _ fun v H2 e2 ⟨a, vs, ev, hl, p⟩ => by
  have : vs = bs.map V.bl := paired_map p
  subst this
  exact ⟨a, bs, by rw [ev], .of hl, q _ _ e2 rfl⟩
theorem ev_any {bs : List Bool} (h : Ev T te σ H (LL eqB bs)) : Ev T (tCB (rAny K) (tCons te tNil)) σ H (fun v _ => v = .bl (bs.any id)) := fun H1 e Q q => h H1 e _ fun v H2 e2 ⟨a, vs, ev, hl, p⟩ => by
  have : vs = bs.map V.bl := paired_map p
  subst this
  exact ⟨a, bs, by rw [ev], .of hl, q _ _ e2 rfl⟩
/-- the bools of a comprehension without a test -/
theorem LL.bools {α : Type} {g : α → Bool} {ds : List α} {v : V} (h : LL (fun d x _ => x = .bl (g d)) ds v H) : LL eqB (ds.map g) v H := by
  obtain ⟨a, vs, e, h, p⟩ := h
  refine ⟨a, vs, e, h, ?_⟩
  have : vs = ds.map fun d => V.bl (g d) := paired_map p
  subst this
  rw [show (ds.map fun d => V.bl (g d)) = (ds.map g).map V.bl by rw [List.map_map]; rfl]
  exact paired_of_map (F := fun v d => eqB d v H) (f := V.bl) (fun _ => rfl) _
theorem LL.map {α β : Type} {P : β → V → Hp → Prop} {g : α → β} {ds : List α} {v : V} (h : LL (fun d x H => P (g d) x H) ds v H) : LL P (ds.map g) v H := by
  obtain ⟨a, vs, e, h, p⟩ := h
  refine ⟨a, vs, e, h, ?_⟩
  clear h
  induction p with
  | nil => exact .nil
  | cons p _ ih => exact .cons p ih
theorem ev_tupleOf {α : Type} {P : α → V → Hp → Prop} (sP : ∀ d, Stb (P d)) {ds : List α} (h : Ev T te σ H (LL P ds)) : Ev T (tThen te (kTup K)) σ H (TT' K P ds) := fun H1 e Q q => h H1 e _ fun v H2 e2 ⟨a, vs, ev, hl, p⟩ => by
  refine .inl ⟨a, vs, ev, .of hl, fun t ht => q _ _ (e2.trans (Ex.new ht)) ⟨t, vs, rfl, .of upd_same, paired_mono (fun x d k => (sP d).ex k (Ex.new (T := T) ht)) p⟩⟩
theorem ev_lenT {α : Type} {P : α → V → Hp → Prop} {ds : List α} (h : Ev T te σ H (TT' K P ds)) : Ev T (tCB (fun xs H Q => ∃ p ys, xs = [.ref p] ∧ (SqL K H p ys ∨ SqT K H p ys) ∧ Q (.int ys.length) H) (tCons te tNil)) σ H (fun v _ => v = .int (ds.length : Int)) := fun H1 e Q q => h H1 e _ fun v H2 e2 ⟨a, vs, ev, hl, p⟩ =>
  ⟨a, vs, by rw [ev], .inr hl, q _ _ e2 (by rw [Paired.length p])⟩
theorem ev_lenL {α : Type} {P : α → V → Hp → Prop} {ds : List α} (h : Ev T te σ H (LL P ds)) : Ev T (tCB (fun xs H Q => ∃ p ys, xs = [.ref p] ∧ (SqL K H p ys ∨ SqT K H p ys) ∧ Q (.int ys.length) H) (tCons te tNil)) σ H (fun v _ => v = .int (ds.length : Int)) := fun H1 e Q q => h H1 e _ fun v H2 e2 ⟨a, vs, ev, hl, p⟩ =>
  ⟨a, vs, by rw [ev], .inl (.of hl), q _ _ e2 (by rw [Paired.length p])⟩
theorem ev_lenS {P : V → Hp → Prop} {n : Nat} (h : Ev T te σ H P) (hp : ∀ v H1, P v H1 → ∃ a xs, v = .ref a ∧ (SqL K H1 a xs ∨ SqT K H1 a xs) ∧ xs.length = n) : Ev T (tCB (fun xs H Q => ∃ p ys, xs = [.ref p] ∧ (SqL K H p ys ∨ SqT K H p ys) ∧ Q (.int ys.length) H) (tCons te tNil)) σ H (fun v _ => v = .int (n : Int)) := fun H1 e Q q => h H1 e _ fun v H2 e2 hv => by
  obtain ⟨a, xs, ev, hs, hl⟩ := hp v H2 hv
  exact ⟨a, xs, by rw [ev], hs, q _ _ e2 (by rw [hl])⟩
/-- an item of a tuple -/
theorem ev_ixT {α : Type} {P : α → V → Hp → Prop} {ds : List α} {i : Nat} {d : α} (sP : ∀ d, Stb (P d)) (h : Ev T ta σ H (TT' K P ds)) (hb : Ev T tb σ H (fun v _ => v = .int (i : Int))) (hd : ds[i]? = some d) : Ev T (tOp (rIxT K) ta tb) σ H (P d) := fun H1 e Q q =>
  h H1 e _ fun v H2 e2 hv => hb H2 (e.trans e2) _ fun y H3 e3 hy => by
    obtain ⟨a, vs, ev, hs, p⟩ := TT'.stb sP v H2 H3 hv e3.tk
    obtain ⟨x, hx, px⟩ := paired_get' p hd
    exact ⟨a, vs, i, x, ev, hy, hs, atI_nat hx, q _ _ (e2.trans e3) px⟩
theorem ev_ixL {α : Type} {P : α → V → Hp → Prop} {ds : List α} {i : Nat} {d : α} (sP : ∀ d, Stb (P d)) (h : Ev T ta σ H (LL P ds)) (hb : Ev T tb σ H (fun v _ => v = .int (i : Int))) (hd : ds[i]? = some d) : Ev T (tOp (rIxL K) ta tb) σ H (P d) := fun H1 e Q q =>
  h H1 e _ fun v H2 e2 hv => hb H2 (e.trans e2) _ fun y H3 e3 hy => by
    obtain ⟨a, vs, ev, hs, p⟩ := LL.ex sP hv e3
    obtain ⟨x, hx, px⟩ := paired_get' p hd
    exact ⟨a, vs, i, x, ev, hy, .of hs, atI_nat hx, q _ _ (e2.trans e3) px⟩
/-- ints -/
theorem ev_I0 {g : Int → Int → V} {i j : Int} (ha : Ev T ta σ H (fun v _ => v = .int i)) (hb : Ev T tb σ H (fun v _ => v = .int j)) : Ev T (tOp (rI0 g) ta tb) σ H (fun v _ => v = g i j) :=
  ev_op ha stb_eq hb fun x y H1 _ hx hy Q q => ⟨i, j, hx, hy, q _ _ (Ex.refl _) rfl⟩
theorem ev_eqS {x y : V} (hs : scal x y = true) (ha : Ev T ta σ H (fun v _ => v = x)) (hb : Ev T tb σ H (fun v _ => v = y)) : Ev T (tOp rEq ta tb) σ H (fun v _ => v = .bl (decide (x = y))) :=
  ev_op ha stb_eq hb fun x' y' H1 _ hx hy Q q => by subst hx hy; exact ⟨hs, q _ _ (Ex.refl _) rfl⟩
theorem ev_neS {x y : V} (hs : scal x y = true) (ha : Ev T ta σ H (fun v _ => v = x)) (hb : Ev T tb σ H (fun v _ => v = y)) : Ev T (tOp rNe ta tb) σ H (fun v _ => v = .bl (!decide (x = y))) :=
  ev_op ha stb_eq hb fun x' y' H1 _ hx hy Q q => by subst hx hy; exact ⟨hs, q _ _ (Ex.refl _) rfl⟩
theorem inV_ints {i : Int} {ns : List Int} : inV (.int i) (ns.map V.int) = decide (i ∈ ns) := by
  unfold inV
  rw [List.any_map]
  induction ns with
  | nil => rfl
  | cons n ns ih =>
    rw [List.any_cons, ih]
    show (eqV (.int n) (.int i) || _) = _
    by_cases h : n = i
    · subst h; simp [eqV]
    · have h' : ¬ i = n := fun q => h q.symm
      simp [eqV, h, h', List.mem_cons]
theorem flat_ints (ns : List Int) : (ns.map V.int).all flatV = true := by
  rw [List.all_eq_true]
  intro x hx
  obtain ⟨n, _, rfl⟩ := List.mem_map.mp hx
  rfl
/-- an int in a list or a tuple of ints -/
theorem ev_inT {i : Int} {ns : List Int} {neg : Bool} (ha : Ev T ta σ H (fun v _ => v = .int i)) (hb : Ev T tb σ H (IT K ns)) : Ev T (tOp (rIn K neg) ta tb) σ H (fun v _ => v = .bl (if neg then !decide (i ∈ ns) else decide (i ∈ ns))) :=
  ev_op ha stb_eq hb fun x y H1 _ hx hy Q q => by
    obtain ⟨a, rfl, h⟩ := hy
    subst hx
    exact ⟨a, _, rfl, .inr h, rfl, flat_ints ns, q _ _ (Ex.refl _) (by rw [inV_ints])⟩
theorem ev_inL {i : Int} {ns : List Int} {neg : Bool} (ha : Ev T ta σ H (fun v _ => v = .int i)) (hb : Ev T tb σ H (LL eqI ns)) : Ev T (tOp (rIn K neg) ta tb) σ H (fun v _ => v = .bl (if neg then !decide (i ∈ ns) else decide (i ∈ ns))) :=
  ev_op ha stb_eq hb fun x y H1 _ hx hy Q q => by
    obtain ⟨a, vs, rfl, h, p⟩ := hy
    have : vs = ns.map V.int := paired_map p
    subst this hx
    exact ⟨a, _, rfl, .inl (.of h), rfl, flat_ints ns, q _ _ (Ex.refl _) (by rw [inV_ints])⟩
/-- a display of a tuple of ints -/
theorem ev_tupI {t : TA} {ns : List Int} (h : EvA T t σ H (fun vs _ => vs = ns.map V.int)) (hl : ns.length ≤ 40000) : Ev T (tTup t) σ H (IT K ns) := fun H1 e Q q => h H1 e _ fun vs H2 e2 p => by
  subst p
  exact ⟨by rw [List.length_map]; exact Nat.le_trans hl (by decide), fun a ha => q _ _ (e2.trans (Ex.new ha)) ⟨a, rfl, .of upd_same⟩⟩
theorem ea_nil' : EvA T tNil σ H (fun vs _ => vs = []) := ea_nil
theorem ea_consV {x : V} {xs : List V} {tr : TA} (h : Ev T ta σ H (fun v _ => v = x)) (hr : EvA T tr σ H (fun vs _ => vs = xs)) : EvA T (tCons ta tr) σ H (fun vs _ => vs = x :: xs) := fun H1 e _ q =>
  h H1 e _ fun v H2 e2 p2 => hr H2 (e.trans e2) _ fun r H3 e3 p3 => q _ H3 (e2.trans e3) (by rw [p2, p3])
theorem ea_one (h : Ev T ta σ H P) : EvA T (tCons ta tNil) σ H (fun vs H' => ∃ v, vs = [v] ∧ P v H') := fun H1 e _ q => h H1 e _ fun v H2 e2 p => q _ H2 e2 ⟨v, rfl, p⟩
theorem ea_two {P P' : V → Hp → Prop} (h : Ev T ta σ H P) (sP : Stb P) (h' : Ev T tb σ H P') : EvA T (tCons ta (tCons tb tNil)) σ H (fun vs H' => ∃ v v', vs = [v, v'] ∧ P v H' ∧ P' v' H') := fun H1 e _ q =>
  h H1 e _ fun v H2 e2 p => h' H2 (e.trans e2) _ fun v' H3 e3 p' => q _ H3 (e2.trans e3) ⟨v, v', rfl, sP.ex p e3, p'⟩
theorem ev_varP {i : Nat} {v : V} {P : V → Hp → Prop} (sP : Stb P) (h : σ[i]? = some (some v)) (p : P v H) : Ev T (tVar i) σ H P := fun H1 e _ q => ⟨v, h, q _ H1 (Ex.refl H1) (sP.ex p e)⟩
theorem ev_varL {α : Type} {i : Nat} {v : V} {P : α → V → Hp → Prop} {ds : List α} (sP : ∀ d, Stb (P d)) (h : σ[i]? = some (some v)) (p : LL P ds v H) : Ev T (tVar i) σ H (LL P ds) := fun H1 e _ q => ⟨v, h, q _ H1 (Ex.refl H1) (p.ex sP e)⟩
end
end
/-! ### slices of tuples of ints -/
section
variable {T : LTab} {K : PySem.W.Frag} {H : Hp} {σ : L2.St} {te : TE}
def EvO (T : LTab) (t : TO) (σ : L2.St) (H : Hp) (o : Option Int) : Prop := ∀ H1, Ex T H H1 → ∀ Q : Option Int → Hp → Prop, (∀ H2, Ex T H1 H2 → Q o H2) → t σ H1 Q
theorem eo_no : EvO T tNoPart σ H none := fun H1 _ _ q => q H1 (Ex.refl H1)
theorem eo_part {i : Int} (h : Ev T te σ H (fun v _ => v = .int i)) : EvO T (tPart te) σ H (some i) := fun H1 e _ q => h H1 e _ fun v H2 e2 p => ⟨i, p, q H2 e2⟩
theorem cutV_whole {xs : List V} {lo hi : Option Int} (h : HT.sIx xs.length 0 lo = 0 ∧ HT.sIx xs.length xs.length hi = xs.length) : cutV xs lo hi = xs := by
  unfold cutV
  rw [h.1, h.2, Nat.sub_zero, List.drop_zero, List.take_length]
theorem ev_sl {tl th : TO} {ns ms : List Int} {lo hi : Option Int} (h : Ev T te σ H (IT K ns)) (hl : EvO T tl σ H lo) (hh : EvO T th σ H hi) (hc : cutV (ns.map V.int) lo hi = ms.map V.int) : Ev T (tSl (rSlA K) te tl th) σ H (IT K ms) := fun H1 e Q q =>
  h H1 e _ fun v H2 e2 hv => hl H2 (e.trans e2) _ fun H3 e3 => hh H3 ((e.trans e2).trans e3) _ fun H4 e4 => by
    obtain ⟨a, ev, hs⟩ := IT.stb.ex hv (e3.trans e4)
    have e24 := (e2.trans e3).trans e4
    refine ⟨a, _, ev, hs, fun hw => ?_, fun hw t ht => ?_⟩
    · have : ns.map V.int = ms.map V.int := (cutV_whole hw).symm.trans hc
      exact q _ _ e24 ⟨a, rfl, this ▸ hs⟩
    · rw [hc]
      exact q _ _ (e24.trans (Ex.new ht)) ⟨t, rfl, .of upd_same⟩
theorem cut_tail (ns : List Int) : cutV (ns.map V.int) (some 1) none = ns.tail.map V.int := by
  unfold cutV
  rw [show HT.sIx (ns.map V.int).length 0 (some 1) = min 1 (ns.map V.int).length from HT.sIx_nat _ 0 1, HT.sIx_none]
  cases ns with
  | nil => rfl
  | cons n ns =>
    rw [List.map_cons, List.length_cons, Nat.min_eq_left (by omega), List.drop_one, List.tail_cons, List.tail_cons, Nat.add_sub_cancel]
    exact List.take_length
end
/-! ### statements -/
section
variable {T : LTab} {H : Hp} {σ : L2.St} {te : TE} {tt : L2.TT} {P : V → Hp → Prop} {D : Ends} {tu tw tz : TS}
theorem q_asg {i : Nat} (h : Ev T te σ H P) (k : ∀ v H1, Ex T H H1 → P v H1 → tz D (σ.set i (some v)) H1) : tSeq (tAsg te (gName i)) tz D σ H := h.go k
theorem s_asg {i : Nat} (h : Ev T te σ H P) (k : ∀ v H1, Ex T H H1 → P v H1 → D.nx (σ.set i (some v)) H1) : tAsg te (gName i) D σ H := h.go k
theorem q_drop (h : Ev T te σ H P) (k : ∀ H1, Ex T H H1 → tz D σ H1) : tSeq (tDrop te) tz D σ H := h.go fun _ H1 e _ => k H1 e
theorem s_ret (h : Ev T te σ H P) (k : ∀ v H1, Ex T H H1 → P v H1 → D.rt v H1) : tRet te D σ H := h.go k
theorem q_if {b : Bool} (h : EvT T tt σ H b) (h1 : b = true → ∀ H1, Ex T H H1 → tu { D with nx := tz D } σ H1) (h2 : b = false → ∀ H1, Ex T H H1 → tw { D with nx := tz D } σ H1) : tSeq (tIfS tt tu tw) tz D σ H := h.go fun H1 e => by
  cases b with
  | true => exact h1 rfl H1 e
  | false => exact h2 rfl H1 e
theorem s_if {b : Bool} (h : EvT T tt σ H b) (h1 : b = true → ∀ H1, Ex T H H1 → tu D σ H1) (h2 : b = false → ∀ H1, Ex T H H1 → tw D σ H1) : tIfS tt tu tw D σ H := h.go fun H1 e => by
  cases b with
  | true => exact h1 rfl H1 e
  | false => exact h2 rfl H1 e
/-- a test that comes out false: its suite is not reached -/
theorem q_no (h : EvT T tt σ H false) (k : ∀ H1, Ex T H H1 → tz D σ H1) : tSeq (tIfS tt tu tNext) tz D σ H := h.go fun H1 e => k H1 e
theorem s_no (h : EvT T tt σ H false) (k : ∀ H1, Ex T H H1 → D.nx σ H1) : tIfS tt tu tNext D σ H := h.go fun H1 e => k H1 e
end
/-- l.append(e) -/
theorem q_app {T : LTab} {K : PySem.W.Frag} {H : Hp} {σ : L2.St} {te : TE} {P : V → Hp → Prop} {D : Ends} {tz : TS} {i : Nat} {l : Addr} {xs : List V} (hs : σ[i]? = some (some (.ref l))) (hl : H l = some (.lst xs)) (hz : xs.length ≤ 50000) (h : Ev T te σ H P)
    (k : ∀ v H1, Ex T H H1 → P v H1 → tz D σ (upd H1 l (.lst (xs ++ [v])))) : tSeq (tDrop (tBM K "list" rAppend (tVar i) (tCons te tNil))) tz D σ H :=
  ⟨_, hs, .inl ⟨rfl, _, SqL.of hl⟩, h.go fun v H1 e p => ⟨l, xs, v, rfl, rfl, e.lst hl, Nat.lt_of_le_of_lt hz (by decide), k v H1 e p⟩⟩
theorem s_app {T : LTab} {K : PySem.W.Frag} {H : Hp} {σ : L2.St} {te : TE} {P : V → Hp → Prop} {D : Ends} {i : Nat} {l : Addr} {xs : List V} (hs : σ[i]? = some (some (.ref l))) (hl : H l = some (.lst xs)) (hz : xs.length ≤ 50000) (h : Ev T te σ H P)
    (k : ∀ v H1, Ex T H H1 → P v H1 → D.nx σ (upd H1 l (.lst (xs ++ [v])))) : tDrop (tBM K "list" rAppend (tVar i) (tCons te tNil)) D σ H :=
  ⟨_, hs, .inl ⟨rfl, _, SqL.of hl⟩, h.go fun v H1 e p => ⟨l, xs, v, rfl, rfl, e.lst hl, Nat.lt_of_le_of_lt hz (by decide), k v H1 e p⟩⟩
/-- a, b = .. of two names -/
theorem pg_two {X : Cx} {K : PySem.W.Frag} {i j k : Nat} {x y : Str} {px py pos : Pos} (hc : X.calm = true) (hN : X.N.Nodup) (hi : X.N[i]? = some x) (hj : X.N[j]? = some y) (hx : Loc X.env.scope x) (hy : Loc X.env.scope y)
    (fx : X.fn x = true ∨ X.env.scope.names.lookup x = some .local) (fy : X.fn y = true ∨ X.env.scope.names.lookup y = some .local) (hK : X.K = K := by rfl) : PG X (.Tuple [.Name x px, .Name y py] k pos) (gTup K 2 (gCons (gName i) (gCons (gName j) gNil))) := by
  subst hK
  exact pg_tup hc (pgs_cons (pg_name hN hi hx fx) (pgs_cons (pg_name hN hj hy fy) pgs_nil))
theorem dfn_mk {P : Program} {w : World} {K : PySem.W.Frag} {mg : Str → Option Value} {base : Heap} {k : Nat} {x : Str} {st : Stmt} {f : Addr} {fd : FuncData} {ps : List Str} {sp : Sp} (F : Fun K x x st f fd) (h : FnOk P w K mg base CX0 k f fd ps sp) (hm : mg x = some (.ref f)) (b : L2.Binds K fd ps []) : Dfn P w K mg base k x ps sp := ⟨f, fd, h, hm, F.kp, b⟩
end WI
set_option maxRecDepth 100000
set_option maxHeartbeats 4000000
/-! set(a list of ints). -/
namespace WI
open PySem PySem.Spec L2 LamX
/-- a set as it is begun -/
abbrev blank (w : World) : Obj := { cls := .type "set", dict := none, data := .set #[] 0 (.fresh 0 0 (!w.params.followText "set-order")) }
section
variable {P : Program} {w : World} {A : Around} {E : Value → Shared → Prop} {s : Shared}
set_option maxRecDepth 100000 in
theorem set_of_list {l : Addr} {items : Array Value} (ns : List Int) {Q : Value → Shared → Prop} (hh : A.handled = none) (hl : s.heap.IsList l items) (hi : PyProof.Rows.IntsAre items.toList ns) (hb : ns.length + 1 < scanBound)
    (h : ∀ (h' : Heap) (tk c : Nat), SetR w h' s.heap.objs.size (fun j => decide (j ∈ ns)) c → c ≤ ns.length → (∀ b o, s.heap.get? b = some o → h'.get? b = some o) → Q (.ref s.heap.objs.size) { s with heap := h', toks := tk }) :
    wpAny (model P w) A (call (.type "set") [.ref l]) Q E s := by
  have sz : items.size = ns.length := by
    have q := hi.length
    rwa [Array.length_toList] at q
  obtain ⟨c, tl, hmro⟩ := F.called_set.mro
  have m1 := F.called_set.made
  have m2 := F.called_set.sub
  refine wpAny_call (codeAny_of_tree ?_)
  show wpAny _ _ (callAny (.type "set") _) _ _ _
  refine wpAny_pure ⟨Code.quiet_builtin _ (by decide +kernel), codeAny_builtin F.entry_type_call ?_⟩
  rw [Around.under_plain (weight_type_call_type "set" [.ref l] []) rfl]
  have m3 := F.called_set.notType
  have m4 := F.called_set.canCreate
  have m5 := F.typeCall_set_1 (.ref l)
  repeat (any_goals (first | assumption | wp_step))
  refine codeAny_mono (code_set_led1 (.ref l) (E := E) (Q₁ := fun obj s1 => obj = .ref s.heap.objs.size ∧ s1 = { s with heap := s.heap.push (blank w) }) ⟨rfl, rfl⟩) fun r s1 hr => ?_
  cases r with
  | error e => exact hr
  | ok fl =>
    cases fl with
    | ret obj =>
      obtain ⟨rfl, rfl⟩ := hr
      have gS : (s.heap.push (blank w)).get? s.heap.objs.size = some (blank w) := Heap.get?_push_size _ rfl
      have tS : Shared.TypeIs { s with heap := s.heap.push (blank w) } (.ref s.heap.objs.size) "set" := ⟨_, gS, rfl⟩
      have m6 := F.called_set.init.lookup
      have m7 := F.called_set.init.bind (.ref s.heap.objs.size)
      repeat (any_goals (first | assumption | wp_step))
      refine codeAny_mono (codeAny_call_builtin (R := wants (fun r s2 => r = .none ∧ ∃ h' tk c, s2 = { s with heap := h', toks := tk } ∧ SetR w h' s.heap.objs.size (fun j => decide (j ∈ ns)) c ∧ c ≤ ns.length ∧
          (∀ b o, s.heap.get? b = some o → h'.get? b = some o)) E) F.called_set.init.plain F.entry_set_init (check_set_init_1 tS ?_)) fun r2 s2 hr2 => ?_
      · obtain ⟨⟨oc, od, dt, sl⟩, gl, hc, nl, hd⟩ := hl
        simp only at hc hd
        subst hc
        subst hd
        have gl' : (s.heap.push (blank w)).get? l = some { cls := .type "list", dict := od, data := .seq items nl, slots := sl } := Heap.get?_push_of_some _ gl
        have k1 := F.sub_list_set
        have k2 := F.sub_list_frozenset
        have k3 : (Value.type "list" == Value.type "dict") = false := by decide
        have isl : (s.heap.push (blank w)).IsList l items := ⟨_, gl', rfl, nl, rfl⟩
        unfold Builtin.«set.__init__» noKeywords Builtin.Frozenset.updateFrom
        generalize hPI : pyIter = PI
        wp_walk
        subst hPI
        refine wpAny_pyIter_list isl ?_
        refine wpAny_bind (wpAny_runValue ?_)
        have lls : l < s.heap.objs.size := Heap.lt_size gl
        have zS : (s.heap.push (blank w)).objs.size = s.heap.objs.size + 1 := Heap.size_push ..
        have nlI : l ≠ (s.heap.push (blank w)).objs.size := by
          rw [zS]
          exact Nat.ne_of_lt (Nat.lt_succ_of_lt lls)
        have nSf : s.heap.objs.size ∉ [(s.heap.push (blank w)).objs.size, l] := by
          rw [zS]
          simp only [List.mem_cons, List.not_mem_nil, or_false, not_or]
          exact ⟨Nat.ne_of_lt (Nat.lt_succ_self _), Nat.ne_of_gt lls⟩
        have val : ∀ (i : Nat) (v : Value), items[i]? = some v → ∃ k t, ns[i]? = some k ∧ v = .int k t := fun i v hv => by
          have lt : i < ns.length := by
            rw [← sz]
            exact (Array.getElem?_eq_some_iff.mp hv).1
          obtain ⟨t, e⟩ := hi.get i ns[i] (List.getElem?_eq_getElem lt)
          refine ⟨ns[i], t, List.getElem?_eq_getElem lt, ?_⟩
          have e2 : items.toList[i]? = some v := by rw [Array.getElem?_toList]; exact hv
          rw [e2] at e
          exact Option.some.inj e
        refine set_update_ints ((Walks.list (by simp [hh] : A.in1.in1.in1.handled = none) _ l nlI items).toS) s.heap.objs.size nSf ns sz hb val (items.size - 0) 0 _ (by omega) (Nat.zero_le _)
          ⟨⟨_, Heap.get?_push_size _ rfl, rfl, rfl⟩, isl.push _⟩ ⟨0, Nat.le_refl 0, setR_new_at (Heap.get?_push_of_some _ gS)⟩ ?_
        intro s' c' hm hc' hS'
        obtain ⟨h', g2, d', tk', os'⟩ := s'
        have eg : g2 = s.gens := hm.gens
        have ed : d' = s.drawn := hm.drawn
        have eo : os' = s.os := hm.os
        subst eg
        subst ed
        subst eo
        show wpAny _ _ _ _ _ _
        refine wpAny_pure ?_
        show wpAny _ _ (ret Value.none) _ _ _
        rw [sz] at hc'
        refine wpAny_pure ⟨rfl, h', tk', c', rfl, hS', hc', fun b o e => ?_⟩
        have lb : b < s.heap.objs.size := Heap.lt_size e
        refine hm.heap b o ?_ (Heap.get?_push_of_some _ (Heap.get?_push_of_some _ e))
        rw [zS]
        simp only [List.mem_cons, List.not_mem_nil, or_false, not_or]
        exact ⟨Nat.ne_of_lt lb, Nat.ne_of_lt (Nat.lt_succ_of_lt lb)⟩
      · cases r2 with
        | error e => exact hr2
        | ok fl2 =>
          cases fl2 with
          | ret r =>
            obtain ⟨rfl, h', tk, c', rfl, hS', hc', hk'⟩ := hr2
            repeat (any_goals (first | assumption | wp_step))
            exact h _ _ _ hS' hc' hk'
          | _ => exact hr2.elim
    | _ => exact hr.elim
end
end WI
set_option maxRecDepth 100000
set_option maxHeartbeats 4000000
/-! sorted(set(a list of ints)), over the layer. -/
namespace WI
open PySem PySem.Spec L2 LamX
/-- sorted(set(xs)) -/
def tSortSet (K : PySem.W.Frag) (ta : TE) : TE := fun σ H Q => ta σ H fun x H1 => ∃ (l : Addr) (ns : List Int), x = .ref l ∧ SqL K H1 l (ns.map V.int) ∧ ns.length < 64 ∧ ∀ (ms : List Int) (p : Addr), ms.Pairwise (· < ·) → (∀ k, k ∈ ms ↔ k ∈ ns) → H1 p = none → Q (.ref p) (upd H1 p (.lst (ms.map V.int)))
theorem pe_sortedSet {X : Cx} {a : Expr} {ta : TE} {p p2 q pos : Pos} (hc : X.calm = true) (hg : Gl X "sorted") (hm : X.mg "sorted" = none) (hg2 : Gl X "set") (hm2 : X.mg "set" = none) (ha : PE X a ta)
    (na : starEach [a] X.env = (false, eval a X.env) :: starEach [] X.env := by rfl) : PE X (.Call (.Name "sorted" p) [.Call (.Name "set" p2) [a] [] q] [] pos) (tSortSet X.K ta) := by
  refine ⟨fun pins s σ H Q I h => ?_⟩
  refine PyProof.Rows.Call_ (ld_blt I hg hm (show bootBuiltins "sorted" = some (.builtin "sorted") from by decide +kernel) ?_)
  refine PyProof.Rows.callWith_builtin1 (PyProof.Rows.args_cons ?_ rfl) rfl rfl
  refine PyProof.Rows.Call_ (ld_blt I hg2 hm2 PyProof.Rows.boot_set ?_)
  refine PyProof.Rows.callWith_type1 (PyProof.Rows.args_cons (thn (ha.run pins s σ H _ I h) fun v s1 ⟨x, H1, I1, r1, q1⟩ => PyProof.Rows.args_nil ?_) na) na rfl
  obtain ⟨l, ns, rfl, hq, hl, k⟩ := q1
  cases r1
  obtain ⟨its, r, pl, hz⟩ := I1.list hq
  refine set_of_list ns (I1.ok.hd hc) pl.isList (by simpa using RZ.intsAre_vals r) (by unfold scanBound; omega) fun h' tk c hS hcn hk => ?_
  refine PyProof.Rows.args_nil ?_
  have I2 : Inv X pins σ H1 { s1 with heap := h', toks := tk } := I1.kept hk
  refine sorted_set hS (I2.ok.hd hc) (by omega) fun s' p out c2 ms kk g o hp hg hi hs hmm hlen => ?_
  have lm : (ms.map V.int).length ≤ sizeLine := by rw [List.length_map, hlen, sizeLine_eq]; omega
  have hn : H1 p = none := I2.hok.fresh hp
  have J : Inv X pins σ (upd H1 p (.lst (ms.map V.int))) s' := by
    obtain ⟨h2, g2, d2, t2, o2⟩ := s'
    obtain rfl : g2 = s1.gens := g
    obtain rfl : o2 = s1.os := o
    exact Inv.call (s := { s1 with heap := h', toks := tk }) I2 (h' := h2) (g' := s1.gens) (d' := d2) (t' := t2) (ch := []) (Un.laid kk hp hn) (I2.hok.laid kk hp ⟨lm, out.toList, c2, vals_of_ints hi, hg⟩) I2.bare (fun _ z => nomatch z)
  exact ⟨.ref p, _, J, rfl, k ms p hs (fun j => (hmm j).trans (by simp)) hn⟩
end WI
set_option maxRecDepth 100000
/-! The defs of walledin.yards and walledin.orders, each walked once. -/
namespace WI
open PySem PySem.Spec L2 LamX

abbrev s_is_int : Stmt := topS 8
abbrev N_is_int : List Str := ["value"]
theorem sc_is_int : FnScope N_is_int ["value"] (defScope s_is_int) := ⟨rfl, rfl, rfl, by decide +kernel, rfl, by decide +kernel, by decide +kernel⟩
abbrev s_is_from : Stmt := topS 9
abbrev N_is_from : List Str := ["value", "least", "most"]
theorem sc_is_from : FnScope N_is_from ["value", "least", "most"] (defScope s_is_from) := ⟨rfl, rfl, rfl, by decide +kernel, rfl, by decide +kernel, by decide +kernel⟩
abbrev s_is_wall : Stmt := topS 10
abbrev N_is_wall : List Str := ["value", "many", "low", "high", "side"]
theorem sc_is_wall : FnScope N_is_wall ["value", "many"] (defScope s_is_wall) := ⟨rfl, rfl, rfl, by decide +kernel, rfl, by decide +kernel, by decide +kernel⟩
abbrev s_need_yard : Stmt := topS 11
abbrev N_need_yard : List Str := ["value", "index", "wall"]
theorem sc_need_yard : FnScope N_need_yard ["value"] (defScope s_need_yard) := ⟨rfl, rfl, rfl, by decide +kernel, rfl, by decide +kernel, by decide +kernel⟩
abbrev s_need_lot : Stmt := topS 12
abbrev N_need_lot : List Str := ["yard", "value", "one", "a", "b"]
theorem sc_need_lot : FnScope N_need_lot ["yard", "value"] (defScope s_need_lot) := ⟨rfl, rfl, rfl, by decide +kernel, rfl, by decide +kernel, by decide +kernel⟩
abbrev s_sides_of : Stmt := topS 13
abbrev N_sides_of : List Str := ["wall", "low", "high", "side"]
theorem sc_sides_of : FnScope N_sides_of ["wall"] (defScope s_sides_of) := ⟨rfl, rfl, rfl, by decide +kernel, rfl, by decide +kernel, by decide +kernel⟩
abbrev s_every : Stmt := topS 14
abbrev N_every : List Str := ["yard"]
theorem sc_every : FnScope N_every ["yard"] (defScope s_every) := ⟨rfl, rfl, rfl, by decide +kernel, rfl, by decide +kernel, by decide +kernel⟩
abbrev s_reached : Stmt := topS 15
abbrev N_reached : List Str := ["yard", "lot", "found", "rising", "number", "low", "high", "side", "one", "other"]
theorem sc_reached : FnScope N_reached ["yard", "lot"] (defScope s_reached) := ⟨rfl, rfl, rfl, by decide +kernel, rfl, by decide +kernel, by decide +kernel⟩
abbrev s_has_order : Stmt := topS 17
abbrev N_has_order : List Str := ["yard", "rooms", "room", "wall"]
theorem sc_has_order : FnScope N_has_order ["yard"] (defScope s_has_order) := ⟨rfl, rfl, rfl, by decide +kernel, rfl, by decide +kernel, by decide +kernel⟩
abbrev s_is_growth : Stmt := topS 18
abbrev N_is_growth : List Str := ["yard", "lot", "rooms", "room", "number"]
theorem sc_is_growth : FnScope N_is_growth ["yard", "lot"] (defScope s_is_growth) := ⟨rfl, rfl, rfl, by decide +kernel, rfl, by decide +kernel, by decide +kernel⟩
abbrev s_need_sides : Stmt := topS 20
abbrev N_need_sides : List Str := ["yard", "value", "one"]
theorem sc_need_sides : FnScope N_need_sides ["yard", "value"] (defScope s_need_sides) := ⟨rfl, rfl, rfl, by decide +kernel, rfl, by decide +kernel, by decide +kernel⟩
abbrev s_chosen : Stmt := topS 21
abbrev N_chosen : List Str := ["yard", "sides", "wall", "side"]
theorem sc_chosen : FnScope N_chosen ["yard", "sides"] (defScope s_chosen) := ⟨rfl, rfl, rfl, by decide +kernel, rfl, by decide +kernel, by decide +kernel⟩
abbrev s_with_sides : Stmt := topS 22
abbrev N_with_sides : List Str := ["yard", "sides"]
theorem sc_with_sides : FnScope N_with_sides ["yard", "sides"] (defScope s_with_sides) := ⟨rfl, rfl, rfl, by decide +kernel, rfl, by decide +kernel, by decide +kernel⟩
abbrev s_sides_of_yard : Stmt := topS 23
abbrev N_sides_of_yard : List Str := ["yard", "wall"]
theorem sc_sides_of_yard : FnScope N_sides_of_yard ["yard"] (defScope s_sides_of_yard) := ⟨rfl, rfl, rfl, by decide +kernel, rfl, by decide +kernel, by decide +kernel⟩
abbrev s_busy : Stmt := topS 24
abbrev N_busy : List Str := ["yard", "found", "wall"]
theorem sc_busy : FnScope N_busy ["yard"] (defScope s_busy) := ⟨rfl, rfl, rfl, by decide +kernel, rfl, by decide +kernel, by decide +kernel⟩
abbrev s_lots_of : Stmt := topS 25
abbrev N_lots_of : List Str := ["yard", "found", "number", "lot"]
theorem sc_lots_of : FnScope N_lots_of ["yard"] (defScope s_lots_of) := ⟨rfl, rfl, rfl, by decide +kernel, rfl, by decide +kernel, by decide +kernel⟩
abbrev s_turned : Stmt := topS 26
abbrev N_turned : List Str := ["yard", "lot"]
theorem sc_turned : FnScope N_turned ["yard", "lot"] (defScope s_turned) := ⟨rfl, rfl, rfl, by decide +kernel, rfl, by decide +kernel, by decide +kernel⟩
abbrev s_turned_of : Stmt := topS 27
abbrev N_turned_of : List Str := ["yard", "lot", "sides", "number", "wall"]
theorem sc_turned_of : FnScope N_turned_of ["yard", "lot"] (defScope s_turned_of) := ⟨rfl, rfl, rfl, by decide +kernel, rfl, by decide +kernel, by decide +kernel⟩
abbrev s_costs_to : Stmt := topS 28
abbrev N_costs_to : List Str := ["yard", "arcs", "wall", "side"]
theorem sc_costs_to : FnScope N_costs_to ["yard"] (defScope s_costs_to) := ⟨rfl, rfl, rfl, by decide +kernel, rfl, by decide +kernel, by decide +kernel⟩
abbrev s_least_tree : Stmt := topS 29
abbrev N_least_tree : List Str := ["rooms", "arcs", "root", "total", "into", "room", "some", "arc", "ring", "name", "later", "one", "other", "cost", "first", "second", "rest", "found"]
theorem sc_least_tree : FnScope N_least_tree ["rooms", "arcs", "root"] (defScope s_least_tree) := ⟨rfl, rfl, rfl, by decide +kernel, rfl, by decide +kernel, by decide +kernel⟩
abbrev s_ring_of : Stmt := topS 30
abbrev N_ring_of : List Str := ["into", "root", "room", "path", "here"]
theorem sc_ring_of : FnScope N_ring_of ["into", "root"] (defScope s_ring_of) := ⟨rfl, rfl, rfl, by decide +kernel, rfl, by decide +kernel, by decide +kernel⟩
abbrev s_fewest_changes : Stmt := topS 31
abbrev N_fewest_changes : List Str := ["yard"]
theorem sc_fewest_changes : FnScope N_fewest_changes ["yard"] (defScope s_fewest_changes) := ⟨rfl, rfl, rfl, by decide +kernel, rfl, by decide +kernel, by decide +kernel⟩
abbrev s_change_lots : Stmt := topS 32
abbrev N_change_lots : List Str := ["yard", "many", "lot"]
theorem sc_change_lots : FnScope N_change_lots ["yard"] (defScope s_change_lots) := ⟨rfl, rfl, rfl, by decide +kernel, rfl, by decide +kernel, by decide +kernel⟩
abbrev s_law_taken : Stmt := topS 34
abbrev N_law_taken : List Str := ["_law_row", "_law_many", "_law_found", "_law_cell"]
theorem sc_law_taken : FnScope N_law_taken ["_law_row", "_law_many"] (defScope s_law_taken) := ⟨rfl, rfl, rfl, by decide +kernel, rfl, by decide +kernel, by decide +kernel⟩
abbrev s_law_alike : Stmt := topS 35
abbrev N_law_alike : List Str := ["_law_found", "_law_due", "_law_k"]
theorem sc_law_alike : FnScope N_law_alike ["_law_found", "_law_due"] (defScope s_law_alike) := ⟨rfl, rfl, rfl, by decide +kernel, rfl, by decide +kernel, by decide +kernel⟩
abbrev s_law_yard : Stmt := topS 36
abbrev N_law_yard : List Str := ["_law_row", "_law_rooms", "_law_shuts", "_law_either", "_law_many", "_law_found", "_law_room", "_law_low", "_law_turn", "_law_high"]
theorem sc_law_yard : FnScope N_law_yard ["_law_row", "_law_rooms", "_law_shuts", "_law_either"] (defScope s_law_yard) := ⟨rfl, rfl, rfl, by decide +kernel, rfl, by decide +kernel, by decide +kernel⟩
abbrev s_law_sides : Stmt := topS 37
abbrev N_law_sides : List Str := ["_law_shut"]
theorem sc_law_sides : FnScope N_law_sides ["_law_shut"] (defScope s_law_sides) := ⟨rfl, rfl, rfl, by decide +kernel, rfl, by decide +kernel, by decide +kernel⟩
abbrev s_law_come : Stmt := topS 38
abbrev N_law_come : List Str := ["_law_yard_here", "_law_lot", "_law_found", "_law_turn", "_law_number", "_law_shut", "_law_side", "_law_other"]
theorem sc_law_come : FnScope N_law_come ["_law_yard_here", "_law_lot"] (defScope s_law_come) := ⟨rfl, rfl, rfl, by decide +kernel, rfl, by decide +kernel, by decide +kernel⟩
abbrev s_law_some : Stmt := topS 39
abbrev N_law_some : List Str := ["_law_row", "_law_many", "_law_number"]
theorem sc_law_some : FnScope N_law_some ["_law_row", "_law_many"] (defScope s_law_some) := ⟨rfl, rfl, rfl, by decide +kernel, rfl, by decide +kernel, by decide +kernel⟩
abbrev s_law_heart : Stmt := topS 40
abbrev N_law_heart : List Str := ["_law_yard_here", "_law_lot", "_law_rooms", "_law_one", "_law_side"]
theorem sc_law_heart : FnScope N_law_heart ["_law_yard_here", "_law_lot"] (defScope s_law_heart) := ⟨rfl, rfl, rfl, by decide +kernel, rfl, by decide +kernel, by decide +kernel⟩
abbrev s_law_chosen : Stmt := topS 41
abbrev N_law_chosen : List Str := ["_law_yard_here", "_law_sides_here", "_law_at"]
theorem sc_law_chosen : FnScope N_law_chosen ["_law_yard_here", "_law_sides_here"] (defScope s_law_chosen) := ⟨rfl, rfl, rfl, by decide +kernel, rfl, by decide +kernel, by decide +kernel⟩
abbrev s_law_leaves : Stmt := topS 42
abbrev N_law_leaves : List Str := ["_law_yard_here"]
theorem sc_law_leaves : FnScope N_law_leaves ["_law_yard_here"] (defScope s_law_leaves) := ⟨rfl, rfl, rfl, by decide +kernel, rfl, by decide +kernel, by decide +kernel⟩
abbrev s_law : Stmt := topS 43
abbrev N_law : List Str := ["_law_script", "_law_row", "_law_yard_here", "_law_many", "_law_lots", "_law_number", "_law_lot", "_law_told", "_law_shut", "_law_good", "_law_sides_here", "_law_at", "_law_best", "_law_size", "_law_big", "_law_few", "_law_some_here"]
theorem sc_law : FnScope N_law ["_law_script"] (defScope s_law) := ⟨rfl, rfl, rfl, by decide +kernel, rfl, by decide +kernel, by decide +kernel⟩

/-- what the top leaves of the built-in names -/
structure Bn (mg : Str → Option Value) : Prop where
  isinstance_ : mg "isinstance" = none
  len_ : mg "len" = none
  all_ : mg "all" = none
  any_ : mg "any" = none
  tuple_ : mg "tuple" = none
  range_ : mg "range" = none
  enumerate_ : mg "enumerate" = none
  zip_ : mg "zip" = none
  sorted_ : mg "sorted" = none
  min_ : mg "min" = none
  int_ : mg "int" = none
  bool_ : mg "bool" = none
  str_ : mg "str" = none
  list_ : mg "list" = none
  set_ : mg "set" = none
  most_rooms : ∃ t, mg "MOST_ROOMS" = some (.int 9 t)
  most_walls : ∃ t, mg "MOST_WALLS" = some (.int 12 t)

/-! ### yards as values -/
structure YOk (many : Int) (ws : List Wall) : Prop where
  m1 : 1 ≤ many
  m9 : many ≤ 9
  wl : ws.length ≤ 12
  wo : ∀ w ∈ ws, WallOk many w
def WV (K : PySem.W.Frag) (w : Wall) : V → Hp → Prop := IT K w.l
theorem WV.stb {K : PySem.W.Frag} (w : Wall) : Stb (WV K w) := IT.stb
def YT (K : PySem.W.Frag) (many : Int) (ws : List Wall) (v : V) (H : Hp) : Prop := ∃ a b, v = .ref a ∧ SqT K H a [.int many, b] ∧ TT' K (WV K) ws b H
theorem YT.stb {K : PySem.W.Frag} {many : Int} {ws : List Wall} : Stb (YT K many ws) := fun _ _ _ ⟨a, b, e, h, t⟩ k => ⟨a, b, e, k.sqt h, TT'.stb WV.stb _ _ _ t k⟩
/-- every number of a wall -/
def evL (n : Nat) : List Int := (List.range n).map fun (i : Nat) => (i : Int)

section
variable {T : LTab} {P : Program} {w : World} {K : PySem.W.Frag} {mg : Str → Option Value} {base : Heap}

def sp_is_int (T : LTab) : Sp := fun vs H Q _ => ∃ i : Int, vs = [.int i] ∧ Pure T (fun v _ => v = .bl true) H Q
theorem ok_is_int {f : Addr} {fd : FuncData} (F : Fun K "is_int" "is_int" s_is_int f fd) (G : Bn mg) : FnOk P w K mg base CX0 1 f fd ["value"] (sp_is_int T) := by
  refine F.ok sc_is_int (fun vs H Q E h => ?_) (fun cdv A outer s H vs Q E hr h => ?_)
  · obtain ⟨i, rfl, _⟩ := h
    rfl
  · obtain ⟨i, rfl, q⟩ := h
    refine ⟨_, (pss_one (ps_ret (pe_and (pe_callB (k_isi K rfl) (by rfl) G.isinstance_ (by decide +kernel) (pa_cons (pv 0) (pa_cons (pe_bltn (by rfl) G.int_ (by decide +kernel) (show RelV (.ty "int") _ from rfl)) pa_nil))) (pe_one (pe_not (pe_callB (k_isi K rfl) (by rfl) G.isinstance_ (by decide +kernel) (pa_cons (pv 0) (pa_cons (pe_bltn (by rfl) G.bool_ (by decide +kernel) (show RelV (.ty "bool") _ from rfl)) pa_nil)))))))), ?_⟩
    refine ⟨_, rfl, _, _, _, _, true, rfl, ClsV.ty "int", TyX.base (TyOf.int i), kit_ty (by decide +kernel), true, rfl, ?_⟩
    refine iteT ?_
    refine ⟨_, rfl, _, _, _, _, false, rfl, ClsV.ty "bool", TyX.base (TyOf.int i), kit_ty (by decide +kernel), false, rfl, ?_⟩
    exact q _ _ (Ex.refl H) rfl

def sp_is_from (T : LTab) : Sp := fun vs H Q _ => ∃ i lo hi : Int, vs = [.int i, .int lo, .int hi] ∧ lo ≤ i ∧ i ≤ hi ∧ Pure T (fun v _ => v = .bl true) H Q
theorem ok_is_from {f : Addr} {fd : FuncData} (F : Fun K "is_from" "is_from" s_is_from f fd) (G : Bn mg) (D_is_int : Dfn P w K mg base 1 "is_int" ["value"] (sp_is_int T)) : FnOk P w K mg base CX0 2 f fd ["value", "least", "most"] (sp_is_from T) := by
  refine F.ok sc_is_from (fun vs H Q E h => ?_) (fun cdv A outer s H vs Q E hr h => ?_)
  · obtain ⟨i, lo, hi, rfl, _⟩ := h
    rfl
  · obtain ⟨i, lo, hi, rfl, h1, h2, q⟩ := h
    refine ⟨_, (pss_one (ps_ret (pe_and (pe_dfn D_is_int (hr.mono (by decide)) (pa_cons (pv 0) pa_nil)) (pe_one (pe_chain op_le op_le (pv 1) (pv 0) (pv 2)))))), ?_⟩
    refine ⟨_, rfl, i, rfl, fun v H1 e1 hv => ⟨true, hv, iteT ?_⟩⟩
    refine ⟨_, rfl, _, rfl, _, _, rfl, rfl, true, congrArg V.bl (decide_eq_true h1), ?_⟩
    rw [if_pos rfl]
    refine ⟨_, rfl, _, _, rfl, rfl, ?_⟩
    exact q _ _ e1 (congrArg V.bl (decide_eq_true h2))

theorem d_is_from {vs : List V} {H : Hp} {i lo hi : Int} (h : vs = [.int i, .int lo, .int hi]) (h1 : lo ≤ i) (h2 : i ≤ hi) {Q : VK} (q : Pure T (fun v _ => v = .bl true) H Q) : sp_is_from T vs H Q E0 := ⟨i, lo, hi, h, h1, h2, q⟩

theorem tyx_tup {H : Hp} {a : Addr} {xs : List V} (h : SqT K H a xs) : TyX K H (.ref a) (.type "tuple") := by
  rcases h with (h | ⟨o, h⟩) | ⟨o, its, n, h, c, _⟩
  · exact TyX.base (TyOf.tup h)
  · exact TyX.fTuple h
  · exact TyX.kTuple h c
/-- isinstance(x, tuple) of a tuple -/
theorem ev_isT {σ : L2.St} {H : Hp} {ta : TE} {Pa : V → Hp → Prop} (h : Ev T ta σ H Pa) (ht : ∀ v H1, Pa v H1 → ∃ a xs, v = .ref a ∧ SqT K H1 a xs) : Ev T (tCB (rIsi K) (tCons ta (tCons (tC (.ty "tuple")) tNil))) σ H (fun v _ => v = .bl true) := fun H1 e Q q =>
  h H1 e _ fun v H2 e2 hv => by
    obtain ⟨a, xs, rfl, hx⟩ := ht v H2 hv
    exact ⟨_, _, _, _, true, rfl, ClsV.ty "tuple", tyx_tup hx, kit_ty (by decide +kernel), q _ _ e2 rfl⟩
/-- is_from of what stands within -/
theorem ev_from {σ : L2.St} {H : Hp} {ta tb tc : TE} {i lo hi : Int} (ha : Ev T ta σ H (fun v _ => v = .int i)) (hb : Ev T tb σ H (fun v _ => v = .int lo)) (hc : Ev T tc σ H (fun v _ => v = .int hi)) (h1 : lo ≤ i) (h2 : i ≤ hi) :
    Ev T (tDfn (sp_is_from T) (tCons ta (tCons tb (tCons tc tNil)))) σ H (fun v _ => v = .bl true) :=
  ev_dfn (ea_consV ha (ea_consV hb (ea_consV hc ea_nil))) fun vs H1 e p Q q => ⟨i, lo, hi, p, h1, h2, q⟩

def sp_is_wall (T : LTab) (K : PySem.W.Frag) : Sp := fun vs H Q _ => ∃ (v : V) (many : Int) (w : Wall), vs = [v, .int many] ∧ IT K w.l v H ∧ WallOk many w ∧ Pure T (fun v _ => v = .bl true) H Q
theorem ok_is_wall {f : Addr} {fd : FuncData} (F : Fun K "is_wall" "is_wall" s_is_wall f fd) (G : Bn mg) (D_is_from : Dfn P w K mg base 2 "is_from" ["value", "least", "most"] (sp_is_from T)) : FnOk P w K mg base CX0 3 f fd ["value", "many"] (sp_is_wall T K) := by
  refine F.ok sc_is_wall (fun vs H Q E h => ?_) (fun cdv A outer s H vs Q E hr h => ?_)
  · obtain ⟨v, many, w, rfl, _⟩ := h
    rfl
  · obtain ⟨v, many, w, rfl, hv, ho, q⟩ := h
    refine ⟨_, (pss_cons (ps_if (PW.pt (pw_or (pt_not (pt_val (pe_callB (k_isi K rfl) (by rfl) G.isinstance_ (by decide +kernel) (pa_cons (pv 0) (pa_cons (pe_bltn (by rfl) G.tuple_ (by decide +kernel) (show RelV (.ty "tuple") _ from rfl)) pa_nil))))) (pw_or1 (pt_cmpR op_ne (pe_callB (k_len K rfl) (by rfl) G.len_ PySem.boot_len (pa_cons (pv 0) pa_nil)) pe_int (nomark _))))) (pss_one (ps_ret pe_bl)) pss_nil)
      (pss_cons (ps_asg (pv 0) (pg_tup rfl (pgs_cons (pg_name (i := 2) sc_is_wall.nd rfl (by first | exact Or.inl rfl | exact Or.inr rfl)) (pgs_cons (pg_name (i := 3) sc_is_wall.nd rfl (by first | exact Or.inl rfl | exact Or.inr rfl)) (pgs_cons (pg_name (i := 4) sc_is_wall.nd rfl (by first | exact Or.inl rfl | exact Or.inr rfl)) pgs_nil)))))
      (pss_one (ps_ret (pe_and (pe_dfn D_is_from (hr.mono (by decide)) (pa_cons (pv 2) (pa_cons pe_int (pa_cons (pe_op op_sub (pv 1) pe_int) pa_nil)))) (pe_and (pe_dfn D_is_from (hr.mono (by decide)) (pa_cons (pv 3) (pa_cons pe_int (pa_cons (pe_op op_sub (pv 1) pe_int) pa_nil)))) (pe_and (pe_cmpR op_lt (pv 2) (pv 3) (nomark _)) (pe_one (pe_dfn D_is_from (hr.mono (by decide)) (pa_cons (pv 4) (pa_cons pe_int (pa_cons pe_int pa_nil)))))))))))), ?_⟩
    have h0 : Ev T (tVar 0) (start N_is_wall [v, .int many]) H (IT K w.l) := ev_varP IT.stb rfl hv
    have c1 := et_not (et_B (ev_isT h0 (fun v H1 ⟨a, e, h⟩ => ⟨a, _, e, h⟩)))
    have c2 := et_test (ev_neS (y := .int 3) rfl (ev_lenT (h0.imp fun v H2 _ h => IT.tt h)) ev_c)
    refine q_no (et_is (et_or c1 fun _ => c2) rfl) fun H1 e1 => ?_
    -- low, high, side = value
    obtain ⟨a, rfl, ht⟩ := IT.stb.ex hv e1
    refine ⟨_, rfl, a, _, rfl, ht, rfl, _, _, rfl, _, _, rfl, _, _, rfl, rfl, ?_⟩
    have m1 : Ev T (tOp (rI0 fun i j => .int (i - j)) (tVar 1) (tC (.int 1))) [some (V.ref a), some (.int many), some (.int w.lo), some (.int w.hi), some (.int w.sd)] H1 (fun v _ => v = .int (many - 1)) := ev_I0 (ev_var rfl) ev_c
    have g1 := ho.h0
    have g2 := ho.hl
    have g3 := ho.hm
    have g4 := ho.hs
    refine s_ret (ev_andV (a := true) (b := true) (ev_from (ev_var rfl) ev_c m1 (by omega) (by omega)) fun _ => ev_andV (a := true) (b := true) (ev_from (ev_var rfl) ev_c m1 (by omega) (by omega)) fun _ => ev_andV (a := true) (b := true) ((ev_I0 (ev_var (v := .int w.lo) rfl) (ev_var (v := .int w.hi) rfl)).imp fun v _ _ e => e.trans (congrArg V.bl (decide_eq_true g2)))
      fun _ => ev_from (ev_var rfl) ev_c ev_c (by omega) (by omega)) fun v H2 e2 hv => q _ _ (e1.trans e2) hv
/-- a yard as an argument: its parts -/
theorem ev_yard0 {σ : L2.St} {H : Hp} {ta tb : TE} {many : Int} {ws : List Wall} (h : Ev T ta σ H (YT K many ws)) (hb : Ev T tb σ H (fun v _ => v = .int 0)) : Ev T (tOp (rIxT K) ta tb) σ H (fun v _ => v = .int many) :=
  ev_op h YT.stb hb fun x y H1 e hx hy Q q => by
    obtain ⟨a, b, rfl, hs, ht⟩ := hx
    exact ⟨a, _, 0, _, rfl, hy, hs, atI_nat (j := 0) rfl, q _ _ (Ex.refl _) rfl⟩
theorem ev_yard1 {σ : L2.St} {H : Hp} {ta tb : TE} {many : Int} {ws : List Wall} (h : Ev T ta σ H (YT K many ws)) (hb : Ev T tb σ H (fun v _ => v = .int 1)) : Ev T (tOp (rIxT K) ta tb) σ H (TT' K (WV K) ws) :=
  ev_op h YT.stb hb fun x y H1 e hx hy Q q => by
    obtain ⟨a, b, rfl, hs, ht⟩ := hx
    exact ⟨a, _, 1, _, rfl, hy, hs, atI_nat (j := 1) rfl, q _ _ (Ex.refl _) ht⟩

def sp_need_yard (T : LTab) (K : PySem.W.Frag) : Sp := fun vs H Q _ => ∃ (v : V) (many : Int) (ws : List Wall), vs = [v] ∧ YT K many ws v H ∧ YOk many ws ∧ Pure T (fun v _ => v = .non) H Q
theorem ok_need_yard {f : Addr} {fd : FuncData} (F : Fun K "need_yard" "need_yard" s_need_yard f fd) (G : Bn mg) (D_is_from : Dfn P w K mg base 2 "is_from" ["value", "least", "most"] (sp_is_from T)) (D_is_wall : Dfn P w K mg base 3 "is_wall" ["value", "many"] (sp_is_wall T K)) :
    FnOk P w K mg base CX0 4 f fd ["value"] (sp_need_yard T K) := by
  refine F.ok sc_need_yard (fun vs H Q E h => ?_) (fun cdv A outer s H vs Q E hr h => ?_)
  · obtain ⟨v, many, ws, rfl, _⟩ := h
    rfl
  · obtain ⟨v, many, ws, rfl, hv, ho, q⟩ := h
    obtain ⟨tR, mR⟩ := G.most_rooms
    obtain ⟨tW, mW⟩ := G.most_walls
    have g1 := ho.m1
    have g2 := ho.m9
    have g3 := ho.wl
    refine ⟨_, (pss_cons (ps_if (PW.pt (pw_or (pt_not (pt_val (pe_callB (k_isi K rfl) (by rfl) G.isinstance_ (by decide +kernel) (pa_cons (pv 0) (pa_cons (pe_bltn (by rfl) G.tuple_ (by decide +kernel) (show RelV (.ty "tuple") _ from rfl)) pa_nil))))) (pw_or (pt_cmpR op_ne (pe_callB (k_len K rfl) (by rfl) G.len_ PySem.boot_len (pa_cons (pv 0) pa_nil)) pe_int (nomark _)) (pw_or1 (pt_not (pt_val (pe_dfn D_is_from (hr.mono (by decide)) (pa_cons (pe_ix (k_ix_tup K rfl) (pv 0) pe_int (fun _ _ => rfl)) (pa_cons pe_int (pa_cons (pe_glob rfl mR (show RelV (.int 9) _ from ⟨_, rfl⟩)) pa_nil)))))))))) (pss_one ps_never) pss_nil)
      (pss_cons (ps_if (PW.pt (pw_or (pt_not (pt_val (pe_callB (k_isi K rfl) (by rfl) G.isinstance_ (by decide +kernel) (pa_cons (pe_ix (k_ix_tup K rfl) (pv 0) pe_int (fun _ _ => rfl)) (pa_cons (pe_bltn (by rfl) G.tuple_ (by decide +kernel) (show RelV (.ty "tuple") _ from rfl)) pa_nil))))) (pw_or1 (pt_cmpR op_gt (pe_callB (k_len K rfl) (by rfl) G.len_ PySem.boot_len (pa_cons (pe_ix (k_ix_tup K rfl) (pv 0) pe_int (fun _ _ => rfl)) pa_nil)) (pe_glob rfl mW (show RelV (.int 12) _ from ⟨_, rfl⟩)) (nomark _))))) (pss_one ps_never) pss_nil)
      (pss_one (ps_for PassesOwn.never rfl (k_enum K (by rfl) G.enumerate_ (pa_cons (pe_ix (k_ix_tup K rfl) (pv 0) pe_int (fun _ _ => rfl)) pa_nil) rfl) (pg_two (K := K) (i := 1) (j := 2) rfl sc_need_yard.nd rfl rfl (by first | exact Or.inl rfl | exact Or.inr rfl) (by first | exact Or.inl rfl | exact Or.inr rfl) (by first | exact Or.inl rfl | exact Or.inr rfl) (by first | exact Or.inl rfl | exact Or.inr rfl)) (pss_one (ps_if (pt_not (pt_val (pe_dfn D_is_wall (hr.mono (by decide)) (pa_cons (pv 2) (pa_cons (pe_ix (k_ix_tup K rfl) (pv 0) pe_int (fun _ _ => rfl)) pa_nil))))) (pss_one ps_never) pss_nil)))))), ?_⟩
    have y0 : ∀ {H1}, Ex T H H1 → Ev T (tVar 0) (start N_need_yard [v]) H1 (YT K many ws) := fun e => ev_varP YT.stb rfl (YT.stb.ex hv e)
    have c1 := et_not (et_B (ev_isT (y0 (Ex.refl H)) (fun v H1 ⟨a, b, e, h, _⟩ => ⟨a, _, e, h⟩)))
    have c2 : EvT T _ _ H false := et_test (ev_neS (x := .int (2 : Nat)) (y := .int 2) rfl (ev_lenS (n := 2) (y0 (Ex.refl H)) fun v H1 ⟨a, b, e, h, _⟩ => ⟨a, _, e, .inr h, rfl⟩) ev_c)
    have c3 : EvT T _ _ H false := et_not (et_B (ev_from (ev_yard0 (y0 (Ex.refl H)) ev_c) ev_c ev_c g1 g2))
    refine q_no (et_is (et_or c1 fun _ => et_or c2 fun _ => c3) rfl) fun H1 e1 => ?_
    have d1 := et_not (et_B (ev_isT (ev_yard1 (y0 e1) ev_c) (fun v H1 ⟨a, xs, e, h, _⟩ => ⟨a, _, e, h⟩)))
    have d2 : EvT T _ _ H1 false := et_test ((ev_I0 (i := (ws.length : Int)) (j := 12) (g := fun i j => .bl (decide (i > j))) (ev_lenT (ev_yard1 (y0 e1) ev_c)) ev_c).imp fun v _ _ e => e.trans (congrArg V.bl (decide_eq_false (by omega))))
    refine q_no (et_is (et_or d1 fun _ => d2) rfl) fun H2 e2 => ?_
    -- the walls
    refine (ev_yard1 (y0 (e1.trans e2)) ev_c).go fun v H3 e3 ⟨a, xs, ev, hs, hp⟩ => ?_
    subst ev
    have e13 := (e1.trans e2).trans e3
    refine ⟨a, xs, rfl, hs, for_enumT (fun i σ H' => ∃ x y, σ = [some v, x, y] ∧ Ex T H3 H') ⟨_, _, rfl, Ex.refl _⟩ (fun i σ H' _ ⟨_, _, _, e⟩ => e.sqt hs) ?_ ?_⟩
    · rintro i x t σ H' hi ⟨x1, x2, rfl, e⟩ ht
      obtain ⟨wl, hw, px⟩ := paired_get hp hi
      have e' : Ex T H3 (upd H' t (.tup [.int (i : Nat), x])) := e.trans (Ex.new ht)
      refine ⟨t, _, rfl, .of upd_same, rfl, _, _, rfl, _, _, rfl, rfl, ?_⟩
      have dw : Ev T (tDfn (sp_is_wall T K) (tCons (tVar 2) (tCons (tOp (rIxT K) (tVar 0) (tC (.int 0))) tNil))) [some v, some (.int (i : Nat)), some x] (upd H' t (.tup [.int (i : Nat), x])) (fun v _ => v = .bl true) :=
        ev_dfn (ea_two (ev_varP (WV.stb wl) rfl ((WV.stb wl).ex px e')) (WV.stb wl) (ev_yard0 (ev_varP YT.stb rfl (YT.stb.ex hv (e13.trans e'))) ev_c)) fun vs H1 e4 ⟨v, v', e5, p1, p2⟩ Q q => ⟨v, many, wl, by rw [e5, p2], p1, ho.wo wl (List.mem_of_getElem? hw), q⟩
      exact s_no (et_not (et_B dw)) fun H4 e4 => ⟨_, _, rfl, e'.trans e4⟩
    · rintro σ H' ⟨x1, x2, rfl, e⟩
      exact q _ _ (e13.trans e) rfl
theorem ev_need_yard {σ : L2.St} {H : Hp} {ta : TE} {many : Int} {ws : List Wall} (h : Ev T ta σ H (YT K many ws)) (ho : YOk many ws) : Ev T (tDfn (sp_need_yard T K) (tCons ta tNil)) σ H (fun v _ => v = .non) :=
  ev_dfn (ea_one h) fun vs H1 e ⟨v, ev, p⟩ Q q => ⟨v, many, ws, ev, p, ho, q⟩
end
end WI
set_option maxRecDepth 100000
/-! need_lot, sides_of, every, reached, has_order, is_growth. -/
namespace WI
open PySem PySem.Spec L2 LamX RZ
section
variable {T : LTab} {P : Program} {w : World} {K : PySem.W.Frag} {mg : Str → Option Value} {base : Heap}

def sp_sides_of (T : LTab) (K : PySem.W.Frag) : Sp := fun vs H Q _ => ∃ (v : V) (many : Int) (wl : Wall), vs = [v] ∧ WV K wl v H ∧ WallOk many wl ∧ Pure T (IT K (sides wl)) H Q
theorem ok_sides_of {f : Addr} {fd : FuncData} (F : Fun K "sides_of" "sides_of" s_sides_of f fd) : FnOk P w K mg base CX0 1 f fd ["wall"] (sp_sides_of T K) := by
  refine F.ok sc_sides_of (fun vs H Q E h => ?_) (fun cdv A outer s H vs Q E hr h => ?_)
  · obtain ⟨v, many, wl, rfl, _⟩ := h
    rfl
  · obtain ⟨v, many, wl, rfl, ⟨a, rfl, ht⟩, ho, q⟩ := h
    refine ⟨_, (pss_cons (ps_asg (pv 0) (pg_tup rfl (pgs_cons (pg_name (i := 1) sc_sides_of.nd rfl (by first | exact Or.inl rfl | exact Or.inr rfl)) (pgs_cons (pg_name (i := 2) sc_sides_of.nd rfl (by first | exact Or.inl rfl | exact Or.inr rfl)) (pgs_cons (pg_name (i := 3) sc_sides_of.nd rfl (by first | exact Or.inl rfl | exact Or.inr rfl)) pgs_nil)))))
      (pss_one (ps_ret (pe_ix (k_ix_list K rfl) (pe_lst (pa_cons (pe_tup (pa_cons (pv 1) pa_nil)) (pa_cons (pe_tup (pa_cons (pv 2) pa_nil)) (pa_cons (pe_tup (pa_cons (pv 1) (pa_cons (pv 2) pa_nil))) pa_nil)))) (pv 3) (fun _ _ => rfl))))), ?_⟩
    refine ⟨_, rfl, a, _, rfl, ht, rfl, _, _, rfl, _, _, rfl, _, _, rfl, rfl, ?_⟩
    refine ⟨_, rfl, by show 1 ≤ sizeLine; decide, fun p1 n1 => ?_⟩
    refine ⟨_, rfl, by show 1 ≤ sizeLine; decide, fun p2 n2 => ?_⟩
    refine ⟨_, rfl, _, rfl, by show 2 ≤ sizeLine; decide, fun p3 n3 => ?_⟩
    refine ⟨by show 3 ≤ sizeLine; decide, fun l nl => ?_⟩
    have e1 : Ex T H (upd H p1 (.tup [.int wl.lo])) := Ex.new n1
    have e2 := e1.trans (Ex.new (T := T) (o := .tup [.int wl.hi]) n2)
    have e3 := e2.trans (Ex.new (T := T) (o := .tup [.int wl.lo, .int wl.hi]) n3)
    have e4 := e3.trans (Ex.new (T := T) (o := .lst [V.ref p1, V.ref p2, V.ref p3]) nl)
    have n12 : p1 ≠ p2 := fun z => by rw [← z, upd_same] at n2; cases n2
    have n13 : p1 ≠ p3 := fun z => by rw [← z, upd_ne n12, upd_same] at n3; cases n3
    have n23 : p2 ≠ p3 := fun z => by rw [← z, upd_same] at n3; cases n3
    have f1 : (upd (upd (upd (upd H p1 (.tup [.int wl.lo])) p2 (.tup [.int wl.hi])) p3 (.tup [.int wl.lo, .int wl.hi])) l (.lst [V.ref p1, V.ref p2, V.ref p3])) p1 = some (.tup [.int wl.lo]) :=
      (Ex.new (T := T) nl).tup ((Ex.new (T := T) n3).tup ((Ex.new (T := T) n2).tup upd_same))
    have f2 : (upd (upd (upd (upd H p1 (.tup [.int wl.lo])) p2 (.tup [.int wl.hi])) p3 (.tup [.int wl.lo, .int wl.hi])) l (.lst [V.ref p1, V.ref p2, V.ref p3])) p2 = some (.tup [.int wl.hi]) :=
      (Ex.new (T := T) nl).tup ((Ex.new (T := T) n3).tup upd_same)
    have f3 : (upd (upd (upd (upd H p1 (.tup [.int wl.lo])) p2 (.tup [.int wl.hi])) p3 (.tup [.int wl.lo, .int wl.hi])) l (.lst [V.ref p1, V.ref p2, V.ref p3])) p3 = some (.tup [.int wl.lo, .int wl.hi]) :=
      (Ex.new (T := T) nl).tup upd_same
    refine ⟨_, rfl, l, _, _, ?x, rfl, rfl, .of upd_same, ?_⟩
    case x => exact if wl.sd = 0 then V.ref p1 else if wl.sd = 1 then V.ref p2 else V.ref p3
    rcases ho.hs with h | h | h
    · rw [h]
      refine ⟨atI_nat (j := 0) rfl, ?_⟩
      refine q _ _ e4 ⟨p1, rfl, ?_⟩
      rw [show sides wl = [wl.lo] from if_pos h]
      exact .of f1
    · rw [h]
      refine ⟨atI_nat (j := 1) rfl, ?_⟩
      refine q _ _ e4 ⟨p2, rfl, ?_⟩
      rw [show sides wl = [wl.hi] from (if_neg (by omega)).trans (if_pos h)]
      exact .of f2
    · rw [h]
      refine ⟨atI_nat (j := 2) rfl, ?_⟩
      refine q _ _ e4 ⟨p3, rfl, ?_⟩
      rw [show sides wl = [wl.lo, wl.hi] from (if_neg (by omega)).trans (if_neg (by omega))]
      exact .of f3
theorem ev_sides_of {σ : L2.St} {H : Hp} {ta : TE} {many : Int} {wl : Wall} (h : Ev T ta σ H (WV K wl)) (ho : WallOk many wl) : Ev T (tDfn (sp_sides_of T K) (tCons ta tNil)) σ H (IT K (sides wl)) :=
  ev_dfn (ea_one h) fun vs H1 e ⟨v, ev, p⟩ Q q => ⟨v, many, wl, ev, p, ho, q⟩

theorem ev_tupRg {σ : L2.St} {H : Hp} {te : TE} {n : Nat} (h : Ev T te σ H (fun v _ => v = .int (n : Int))) (hn : n ≤ 10000) : Ev T (tTupRg (tRg1 te)) σ H (IT K (evL n)) := fun H1 e Q q => h H1 e _ fun v H2 e2 hv => by
  refine ⟨_, hv, RgOk.of_le (by omega) (by omega) (by omega) (by omega), fun p np => q _ _ (e2.trans (Ex.new np)) ⟨p, rfl, .of ?_⟩⟩
  rw [upd_same]
  congr 2
  unfold rgV evL
  rw [List.map_map, Int.sub_zero, Int.toNat_natCast]
  apply List.map_congr_left
  intro i hi
  show V.int (0 + (i : Int)) = V.int (i : Int)
  rw [Int.zero_add]
def sp_every (T : LTab) (K : PySem.W.Frag) : Sp := fun vs H Q _ => ∃ (v : V) (many : Int) (ws : List Wall), vs = [v] ∧ YT K many ws v H ∧ ws.length ≤ 12 ∧ Pure T (IT K (evL ws.length)) H Q
theorem ok_every {f : Addr} {fd : FuncData} (F : Fun K "every" "every" s_every f fd) (G : Bn mg) : FnOk P w K mg base CX0 1 f fd ["yard"] (sp_every T K) := by
  refine F.ok sc_every (fun vs H Q E h => ?_) (fun cdv A outer s H vs Q E hr h => ?_)
  · obtain ⟨v, many, ws, rfl, _⟩ := h
    rfl
  · obtain ⟨v, many, ws, rfl, hv, hl, q⟩ := h
    refine ⟨_, (pss_one (ps_ret (pe_tupRg rfl (by rfl) G.tuple_ (prg_1 (by rfl) G.range_ (pe_callB (k_len K rfl) (by rfl) G.len_ PySem.boot_len (pa_cons (pe_ix (k_ix_tup K rfl) (pv 0) pe_int (fun _ _ => rfl)) pa_nil)))))), ?_⟩
    exact s_ret (ev_tupRg (ev_lenT (ev_yard1 (ev_varP YT.stb rfl hv) ev_c)) (by omega)) fun v H1 e1 hv => q _ _ e1 hv
theorem ev_every {σ : L2.St} {H : Hp} {ta : TE} {many : Int} {ws : List Wall} (h : Ev T ta σ H (YT K many ws)) (hl : ws.length ≤ 12) : Ev T (tDfn (sp_every T K) (tCons ta tNil)) σ H (IT K (evL ws.length)) :=
  ev_dfn (ea_one h) fun vs H1 e ⟨v, ev, p⟩ Q q => ⟨v, many, ws, ev, p, hl, q⟩

def sp_need_lot (T : LTab) (K : PySem.W.Frag) : Sp := fun vs H Q _ => ∃ (v l : V) (many : Int) (ws : List Wall) (lot : List Int), vs = [v, l] ∧ YT K many ws v H ∧ IT K lot l H ∧ IsLot ws.length lot ∧ lot.length ≤ 12 ∧ Pure T (fun v _ => v = .non) H Q
theorem ok_need_lot {f : Addr} {fd : FuncData} (F : Fun K "need_lot" "need_lot" s_need_lot f fd) (G : Bn mg) (D_is_from : Dfn P w K mg base 2 "is_from" ["value", "least", "most"] (sp_is_from T)) : FnOk P w K mg base CX0 3 f fd ["yard", "value"] (sp_need_lot T K) := by
  refine F.ok sc_need_lot (fun vs H Q E h => ?_) (fun cdv A outer s H vs Q E hr h => ?_)
  · obtain ⟨v, l, many, ws, lot, rfl, _⟩ := h
    rfl
  · obtain ⟨v, l, many, ws, lot, rfl, hv, hl, ho, hlen, q⟩ := h
    refine ⟨_, (pss_cons (ps_if (PW.pt (pw_or (pt_not (pt_val (pe_callB (k_isi K rfl) (by rfl) G.isinstance_ (by decide +kernel) (pa_cons (pv 1) (pa_cons (pe_bltn (by rfl) G.tuple_ (by decide +kernel) (show RelV (.ty "tuple") _ from rfl)) pa_nil))))) (pw_or1 (pt_not (pt_val (pe_callB (k_all K rfl rfl) (by rfl) G.all_ (by decide +kernel) (pa_cons (pe_lc (own := [("one", 2)]) rfl sc_need_lot.nd (k_tup K (pv 1) rfl) (blkOk_by (own := [("one", 2)]) (N := N_need_lot) (by show blkC _ (defScope s_need_lot) _ _ = true; decide +kernel)) (fun _ _ _ _ _ => (pg_name (i := 2) sc_need_lot.nd rfl (by first | exact Or.inl rfl | exact Or.inr rfl))) (fun _ _ _ _ _ => pts_nil) (fun _ _ _ _ _ => (pe_dfn D_is_from (hr.mono (by decide)) (pa_cons (pv 2) (pa_cons pe_int (pa_cons (pe_op op_sub (pe_callB (k_len K rfl) (by rfl) G.len_ PySem.boot_len (pa_cons (pe_ix (k_ix_tup K rfl) (pv 0) pe_int (fun _ _ => rfl)) pa_nil)) pe_int) pa_nil)))))) pa_nil))))))) (pss_one ps_never) pss_nil)
      (pss_one (ps_if (pt_val (pe_callB (k_any K rfl rfl) (by rfl) G.any_ (by decide +kernel) (pa_cons (pe_lc (own := [("a", 3), ("b", 4)]) rfl sc_need_lot.nd (k_zip K (by rfl) G.zip_ (pa_cons (pv 1) (pa_cons (pe_slice (k_sl_tup K rfl) (pv 1) (po_some pe_int) po_none) pa_nil)) rfl) (blkOk_by (own := [("a", 3), ("b", 4)]) (N := N_need_lot) (by show blkC _ (defScope s_need_lot) _ _ = true; decide +kernel)) (fun _ _ _ _ _ => (pg_two (K := K) (i := 3) (j := 4) rfl sc_need_lot.nd rfl rfl (by first | exact Or.inl rfl | exact Or.inr rfl) (by first | exact Or.inl rfl | exact Or.inr rfl) (by first | exact Or.inl rfl | exact Or.inr rfl) (by first | exact Or.inl rfl | exact Or.inr rfl))) (fun _ _ _ _ _ => pts_nil) (fun _ _ _ _ _ => (pe_cmpR op_ge (pv 3) (pv 4) (nomark _)))) pa_nil))) (pss_one ps_never) pss_nil))), ?_⟩
    have y0 : ∀ {σ H1} , σ[0]? = some (some v) → Ex T H H1 → Ev T (tVar 0) σ H1 (YT K many ws) := fun h e => ev_varP YT.stb h (YT.stb.ex hv e)
    have l0 : Ev T (tVar 1) (start N_need_lot [v, l]) H (IT K lot) := ev_varP IT.stb rfl hl
    have c1 := et_not (et_B (ev_isT l0 (fun v H1 ⟨a, e, h⟩ => ⟨a, _, e, h⟩)))
    have lc1 := ev_lcT (β := Unit) (T := T) (K := K) (tl := tVar 1) (te := tDfn (sp_is_from T) (tCons (tVar 2) (tCons (tC (.int 0)) (tCons (tOp (rI0 fun i j => .int (i - j)) (tCB (fun xs H Q => ∃ p ys, xs = [.ref p] ∧ (SqL K H p ys ∨ SqT K H p ys) ∧ Q (.int ys.length) H) (tCons (tOp (rIxT K) (tVar 0) (tC (.int 1))) tNil)) (tC (.int 1))) tNil)))) (tt := tYes) (σ := start N_need_lot [v, l]) (j := 2) (vs := [2])
      (Ps := eqI) (Pe := fun d x _ => x = .bl ((fun _ => true) d)) (ds := lot) (fun _ => true) (l0.imp fun v H2 _ h => IT.tt h) (fun d => stb_eq) (by omega) (fun _ => rfl) (fun d x H1 _ _ _ => et_yes) (fun d x H1 hd e hx _ => by
        subst hx
        have := ho.inn d hd
        exact ev_from (i := d) (lo := 0) (hi := (ws.length : Int) - 1) (ev_var rfl) ev_c (ev_I0 (ev_lenT (ev_yard1 (y0 rfl e) ev_c)) ev_c) (by omega) (by omega))
    have c2 := et_not (et_B (ev_all (K := K) (lc1.imp fun v H2 _ h => LL.bools h)))
    refine q_no (et_is (et_or c1 fun _ => c2) (by simp)) fun H1 e1 => ?_
    have l1 : Ev T (tVar 1) (start N_need_lot [v, l]) H1 (IT K lot) := ev_varP IT.stb rfl (IT.stb.ex hl e1)
    have lc2 := ev_lcZ (T := T) (K := K) (te := tOp (rI0 fun i j => .bl (decide (j ≤ i))) (tVar 3) (tVar 4)) (ta := tCons (tVar 1) (tCons (tSl (rSlA K) (tVar 1) (tPart (tC (.int 1))) tNoPart) tNil)) (tt := tYes) (σ := start N_need_lot [v, l]) (j1 := 3) (j2 := 4) (vs := [3, 4])
      (Ps := eqI) (Pt := eqI) (Pe := fun d x _ => x = .bl ((fun p : Int × Int => decide (p.2 ≤ p.1)) d)) (ds := lot) (es := lot.tail) (fun _ => true)
      ((ea_two l1 IT.stb (ev_sl l1 (eo_part ev_c) eo_no (cut_tail lot))).imp fun vs H2 _ ⟨v, v', e, p, p'⟩ => ⟨v, v', e, IT.tt p, .inl (IT.tt p')⟩) (fun d => stb_eq) (by rw [List.length_zip]; omega) (fun _ _ => rfl) (fun d d' x y H1 _ _ _ _ => et_yes) (fun d d' x y H1 hd e hx hy _ => by
        subst hx hy
        exact ev_I0 (ev_var rfl) (ev_var rfl))
    have c3 := et_B (ev_any (K := K) (lc2.imp fun v H2 _ h => LL.bools h))
    refine s_no (et_is c3 ?_) fun H2 e2 => q _ _ (e1.trans e2) rfl
    simp only [filt_true, List.any_map, List.any_eq_false]
    have up := ho.up
    clear lc1 lc2 c1 c2 c3 hl l0 l1 ho hlen
    induction lot with
    | nil => intro x hx; cases hx
    | cons a lot ih =>
      cases lot with
      | nil => intro x hx; cases hx
      | cons b lot =>
        intro x hx
        have hx' : x = (a, b) ∨ x ∈ (b :: lot).zip (b :: lot).tail := by
          have : x ∈ (a, b) :: (b :: lot).zip lot := hx
          simpa using this
        rcases hx' with rfl | hx'
        · have := (List.pairwise_cons.mp up).1 b (List.mem_cons_self ..)
          simp only [Function.comp, id]
          simp
          omega
        · exact ih (List.pairwise_cons.mp up).2 x hx'
theorem ev_need_lot {σ : L2.St} {H : Hp} {ta tb : TE} {many : Int} {ws : List Wall} {lot : List Int} (h : Ev T ta σ H (YT K many ws)) (h2 : Ev T tb σ H (IT K lot)) (ho : IsLot ws.length lot) (hl : lot.length ≤ 12) : Ev T (tDfn (sp_need_lot T K) (tCons ta (tCons tb tNil))) σ H (fun v _ => v = .non) :=
  ev_dfn (ea_two h YT.stb h2) fun vs H1 e ⟨v, v', ev, p, p'⟩ Q q => ⟨v, v', many, ws, lot, ev, p, p', ho, hl, q⟩
end
end WI
set_option maxRecDepth 100000
/-! reached. -/
namespace WI
open PySem PySem.Spec L2 LamX RZ
/-- a list of rooms that are come to, from outside on -/
structure Come (many : Int) (ws : List Wall) (ns : List Int) : Prop where
  nd : ns.Nodup
  z : 0 ∈ ns
  re : ∀ x ∈ ns, Reach ws x
  rg : ∀ x ∈ ns, 0 ≤ x ∧ x < many
/-- the gap leads on to no new room, from that side -/
def Shut1 (w : Wall) (ns : List Int) (s : Int) : Prop := s ∈ sides w → s ∈ ns → other w s ∈ ns
def Shut (w : Wall) (ns : List Int) : Prop := Shut1 w ns w.lo ∧ Shut1 w ns w.hi
theorem come_len {many : Int} {ws : List Wall} {ns : List Int} (c : Come many ws ns) (hm : many ≤ 9) : ns.length ≤ 9 := by
  have h := length_le_of_subset c.nd (m := evL 9) fun x hx => by
    have := c.rg x hx
    refine List.mem_map.mpr ⟨x.toNat, List.mem_range.mpr (by omega), by omega⟩
  simpa [evL] using h
theorem come_all {many : Int} {ws : List Wall} {ns : List Int} (c : Come many ws ns) (h : ∀ w ∈ ws, Shut w ns) : ∀ r, r ∈ ns ↔ Reach ws r := by
  intro r
  constructor
  · exact c.re r
  · intro hr
    induction hr with
    | zero => exact c.z
    | step hw hs _ ih =>
      rcases sides_end hs with e | e
      · subst e; exact (h _ hw).1 hs ih
      · subst e; exact (h _ hw).2 hs ih
/-- one pass over the gaps: what was found, whether it grew -/
structure Pass (many : Int) (ws : List Wall) (ns0 : List Int) (C : List Int → Prop) (ns : List Int) (b : Bool) : Prop where
  come : Come many ws ns
  le : ns0.length ≤ ns.length
  up : b = true → ns0.length < ns.length
  no : b = false → ns = ns0 ∧ C ns
section
variable {T : LTab} {P : Program} {w : World} {K : PySem.W.Frag} {mg : Str → Option Value} {base : Heap}
def sp_reached (T : LTab) (K : PySem.W.Frag) : Sp := fun vs H Q _ => ∃ (v l : V) (many : Int) (ws : List Wall), vs = [v, l] ∧ YT K many ws v H ∧ YOk many ws ∧ IT K (evL ws.length) l H ∧ Pure T (fun v H' => ∃ rs : List Int, LL eqI rs v H' ∧ ∀ r, r ∈ rs ↔ Reach ws r) H Q
/-- where the found rooms stand -/
def At (T : LTab) (H0 : Hp) (p : Addr) (ns : List Int) (H : Hp) : Prop := Ex T H0 H ∧ H0 p = none ∧ H p = some (.lst (ns.map V.int))
theorem At.ll {H0 H : Hp} {p : Addr} {ns : List Int} (a : At T H0 p ns H) : LL eqI ns (.ref p) H := ⟨p, _, rfl, a.2.2, paired_of_map (F := fun v d => eqI d v H) (f := V.int) (fun _ => rfl) ns⟩
theorem At.ex {H0 H H' : Hp} {p : Addr} {ns : List Int} (a : At T H0 p ns H) (e : Ex T H H') : At T H0 p ns H' := ⟨a.1.trans e, a.2.1, e.lst a.2.2⟩
theorem At.add {H0 H : Hp} {p : Addr} {ns : List Int} {n : Int} (a : At T H0 p ns H) : At T H0 p (ns ++ [n]) (upd H p (.lst (ns.map V.int ++ [.int n]))) :=
  ⟨a.1.mut a.2.1 a.2.2, a.2.1, by rw [upd_same, List.map_append]; rfl⟩
theorem q_unp3 {H : Hp} {σ : L2.St} {te : TE} {D : Ends} {tz : TS} {i j l n : Nat} {wl : Wall} (h : Ev T te σ H (WV K wl)) (hn : n = 3) (k : ∀ H1, Ex T H H1 → tz D (((σ.set i (some (.int wl.lo))).set j (some (.int wl.hi))).set l (some (.int wl.sd))) H1) :
    tSeq (tAsg te (gTup K n (gCons (gName i) (gCons (gName j) (gCons (gName l) gNil))))) tz D σ H := by
  subst hn
  refine h.go fun v H1 e ⟨a, ev, hs⟩ => ?_
  exact ⟨a, _, ev, hs, rfl, _, _, rfl, _, _, rfl, _, _, rfl, rfl, k H1 e⟩
/-- one side of a gap looked at -/
theorem pass_step {many : Int} {ws : List Wall} {ns0 ns : List Int} {b : Bool} {C : List Int → Prop} {wl : Wall} {s : Int} (h : Pass many ws ns0 C ns b) (hw : wl ∈ ws) (ho : WallOk many wl) (hs : s = wl.lo ∨ s = wl.hi) :
    (s ∈ ns ∧ ¬ other wl s ∈ ns ∧ s ∈ sides wl → Pass many ws ns0 (fun n => C n ∧ Shut1 wl n s) (ns ++ [other wl s]) true) ∧ (¬ (s ∈ ns ∧ ¬ other wl s ∈ ns ∧ s ∈ sides wl) → Pass many ws ns0 (fun n => C n ∧ Shut1 wl n s) ns b) := by
  constructor
  · rintro ⟨h1, h2, h3⟩
    refine ⟨⟨?_, List.mem_append_left _ h.come.z, ?_, ?_⟩, ?_, ?_, fun q => by cases q⟩
    · rw [List.nodup_append]
      refine ⟨h.come.nd, by simp, fun a ha b hb e => ?_⟩
      rw [List.mem_singleton.mp hb] at e
      rw [e] at ha
      exact h2 ha
    · intro x hx
      rcases List.mem_append.mp hx with hx | hx
      · exact h.come.re x hx
      · rw [List.mem_singleton.mp hx]
        exact Reach.step hw h3 (h.come.re _ h1)
    · intro x hx
      rcases List.mem_append.mp hx with hx | hx
      · exact h.come.rg x hx
      · rw [List.mem_singleton.mp hx]
        have := ho.h0
        have := ho.hl
        have := ho.hm
        rcases other_end hs with e | e <;> rw [e] <;> omega
    · have := h.le
      rw [List.length_append]
      omega
    · intro _
      have := h.le
      rw [List.length_append, List.length_singleton]
      omega
  · intro hn
    refine ⟨h.come, h.le, h.up, fun q => ⟨(h.no q).1, (h.no q).2, fun h1 h2 => ?_⟩⟩
    exact Decidable.byContradiction fun h3 => hn ⟨h2, h3, h1⟩
theorem ok_reached {f : Addr} {fd : FuncData} (F : Fun K "reached" "reached" s_reached f fd) (G : Bn mg) (D_sides_of : Dfn P w K mg base 1 "sides_of" ["wall"] (sp_sides_of T K)) : FnOk P w K mg base CX0 2 f fd ["yard", "lot"] (sp_reached T K) := by
  refine F.ok sc_reached (fun vs H Q E h => ?_) (fun cdv A outer s H vs Q E hr h => ?_)
  · obtain ⟨v, l, many, ws, rfl, _⟩ := h
    rfl
  · obtain ⟨v, l, many, ws, rfl, hv, ho, ⟨la, rfl, hla⟩, q⟩ := h
    refine ⟨_, (pss_cons (ps_par (i := 2) (j := 3) rfl sc_reached.nd rfl rfl (by decide) rfl rfl (pa_cons (pe_lst (pa_cons pe_int pa_nil)) (pa_cons pe_bl pa_nil)) (by rfl))
      (pss_cons (ps_while PassesOwn.never (pt_val (pv 3)) (pss_cons (ps_set (i := 3) sc_reached.nd rfl (by first | exact Or.inl rfl | exact Or.inr rfl) pe_bl)
      (pss_one (ps_for PassesOwn.never rfl (k_tup K (pv 1) rfl) (pg_name (i := 4) sc_reached.nd rfl (by first | exact Or.inl rfl | exact Or.inr rfl)) (pss_cons (ps_asg (pe_ix (k_ix_tup K rfl) (pe_ix (k_ix_tup K rfl) (pv 0) pe_int (fun _ _ => rfl)) (pv 4) (fun _ _ => rfl)) (pg_tup rfl (pgs_cons (pg_name (i := 5) sc_reached.nd rfl (by first | exact Or.inl rfl | exact Or.inr rfl)) (pgs_cons (pg_name (i := 6) sc_reached.nd rfl (by first | exact Or.inl rfl | exact Or.inr rfl)) (pgs_cons (pg_name (i := 7) sc_reached.nd rfl (by first | exact Or.inl rfl | exact Or.inr rfl)) pgs_nil)))))
      (pss_one (ps_for PassesOwn.never rfl (k_tup K (pe_tup (pa_cons (pe_tup (pa_cons (pv 5) (pa_cons (pv 6) pa_nil))) (pa_cons (pe_tup (pa_cons (pv 6) (pa_cons (pv 5) pa_nil))) pa_nil))) rfl) (pg_two (K := K) (i := 8) (j := 9) rfl sc_reached.nd rfl rfl (by first | exact Or.inl rfl | exact Or.inr rfl) (by first | exact Or.inl rfl | exact Or.inr rfl) (by first | exact Or.inl rfl | exact Or.inr rfl) (by first | exact Or.inl rfl | exact Or.inr rfl)) (pss_one (ps_if (PW.pt (pw_and (pt_cmpR (k_in K rfl) (pv 8) (pv 2) rfl) (pw_and (pt_cmpR (k_notIn K rfl) (pv 9) (pv 2) rfl) (pw_and1 (pt_cmpR (k_in K rfl) (pv 8) (pe_dfn D_sides_of (hr.mono (by decide)) (pa_cons (pe_ix (k_ix_tup K rfl) (pe_ix (k_ix_tup K rfl) (pv 0) pe_int (fun _ _ => rfl)) (pv 4) (fun _ _ => rfl)) pa_nil)) rfl))))) (pss_cons (ps_expr (pe_bm PySem.F.plainAttrs_list PySem.F.slot_list_append PySem.F.type_list_append mt_append (pv 2) (pa_cons (pv 9) pa_nil)))
      (pss_one (ps_set (i := 3) sc_reached.nd rfl (by first | exact Or.inl rfl | exact Or.inr rfl) pe_bl))) pss_nil)))))))))
      (pss_one (ps_ret (pe_callB (k_sortedI K rfl) (by rfl) G.sorted_ (by decide +kernel) (pa_cons (pv 2) pa_nil)))))), ?_⟩
    have g1 := ho.m1
    have g2 := ho.m9
    -- found, rising = [0], True
    refine ⟨by show 1 ≤ sizeLine; decide, fun p np => ⟨_, _, rfl, ?_⟩⟩
    have A0 : At T H p [0] (upd H p (.lst [.int 0])) := ⟨Ex.new np, np, upd_same⟩
    have y0 : ∀ {σ H1} , σ[0]? = some (some v) → Ex T H H1 → Ev T (tVar 0) σ H1 (YT K many ws) := fun h e => ev_varP YT.stb h (YT.stb.ex hv e)
    refine ⟨fun m σ H' => ∃ ns b x4 x5 x6 x7 x8 x9, σ = [some v, some (.ref la), some (.ref p), some (.bl b), x4, x5, x6, x7, x8, x9] ∧ At T H p ns H' ∧ Come many ws ns ∧ m = 2 * (10 - ns.length) + (if b = true then 1 else 0) ∧ (b = false → ∀ w ∈ ws, Shut w ns),
      ⟨_, [0], true, none, none, none, none, none, none, rfl, A0, ⟨by simp, by simp, by simp [Reach.zero], by simp; omega⟩, rfl, fun h => by cases h⟩, ?_⟩
    rintro m σ H1 ⟨ns, b, x4, x5, x6, x7, x8, x9, rfl, A1, C1, rfl, hb⟩
    refine ⟨_, rfl, b, rfl, ?_⟩
    cases b with
    | false =>
      -- return sorted(found)
      refine iteF ?_
      refine ⟨_, rfl, p, ns, rfl, .of A1.2.2, fun ns' p' hp hs np' => ?_⟩
      refine q _ _ (A1.1.trans (Ex.new np')) ⟨ns', ⟨p', _, rfl, upd_same, paired_of_map (F := fun v d => eqI d v _) (f := V.int) (fun _ => rfl) ns'⟩, fun r => ?_⟩
      rw [hp.mem_iff]
      exact come_all C1 (hb rfl) r
    | true =>
      refine iteT ?_
      refine ⟨fun σ H' => ∃ ns' b' x4 x5 x6 x7 x8 x9, σ = [some v, some (.ref la), some (.ref p), some (.bl b'), x4, x5, x6, x7, x8, x9] ∧ At T H p ns' H' ∧ Pass many ws ns (fun ns' => ∀ w ∈ ws, Shut w ns') ns' b', ?_, ?_⟩
      · rintro σ' H' ⟨ns', b', x4, x5, x6, x7, x8, x9, rfl, A2, P2⟩
        have := come_len P2.come g2
        have := P2.le
        refine ⟨_, ?_, ns', b', x4, x5, x6, x7, x8, x9, rfl, A2, P2.come, rfl, fun h => (P2.no h).2⟩
        cases b' with
        | true =>
          have := P2.up rfl
          simp
          omega
        | false =>
          rw [(P2.no rfl).1]
          simp
      -- rising = False; for number in lot
      refine q_asg (T := T) ev_c fun v' H2 e2 hv' => ?_
      subst hv'
      have A2 := A1.ex e2
      refine ⟨_, rfl, la, rfl, ⟨_, A2.1.sqt hla⟩, for_tup (K := K) (xs := (evL ws.length).map V.int) (fun i σ H' => ∃ ns' b' x4 x5 x6 x7 x8 x9, σ = [some v, some (.ref la), some (.ref p), some (.bl b'), x4, x5, x6, x7, x8, x9] ∧ At T H p ns' H' ∧ Pass many ws ns (fun ns' => ∀ j w, j < i → ws[j]? = some w → Shut w ns') ns' b')
        ⟨ns, false, _, _, _, _, _, _, rfl, A2, C1, Nat.le_refl _, (fun h => by cases h), fun _ => ⟨rfl, fun j w h => absurd h (Nat.not_lt_zero j)⟩⟩ (fun i σ H' _ ⟨_, _, _, _, _, _, _, _, _, h, _⟩ => h.1.sqt hla) ?_ ?_⟩
      · rintro i x σ H' hi ⟨ns', b', x4, x5, x6, x7, x8, x9, rfl, A4, P4⟩
        have hi2 : (evL ws.length)[i]? = some (i : Int) ∧ i < ws.length := by
          unfold evL at hi ⊢
          rw [List.getElem?_map, List.getElem?_map] at hi
          by_cases hlt : i < ws.length
          · rw [List.getElem?_map, List.getElem?_range hlt]
            exact ⟨rfl, hlt⟩
          · rw [List.getElem?_eq_none (by rw [List.length_range]; omega)] at hi
            cases hi
        have ex : x = .int (i : Int) := by
          rw [List.getElem?_map, hi2.1] at hi
          exact (Option.some.inj hi).symm
        subst ex
        have hwl : ws[i]? = some ws[i] := List.getElem?_eq_getElem hi2.2
        generalize ws[i] = wl at hwl
        have hmem := List.mem_of_getElem? hwl
        have wok := ho.wo wl hmem
        show tSeq _ _ _ [some v, some (.ref la), some (.ref p), some (.bl b'), some (.int (i : Int)), x5, x6, x7, x8, x9] H'
        have wall : ∀ {σ H1}, σ[0]? = some (some v) → σ[4]? = some (some (.int (i : Int))) → Ex T H H1 → Ev T (tOp (rIxT K) (tOp (rIxT K) (tVar 0) (tC (.int 1))) (tVar 4)) σ H1 (WV K wl) :=
          fun h0 h4 e => ev_ixT (K := K) WV.stb (ev_yard1 (y0 h0 e) ev_c) (ev_var h4) hwl
        refine q_unp3 (wall rfl rfl A4.1) rfl fun H5 e5 => ?_
        show tFor _ _ _ _ [some v, some (.ref la), some (.ref p), some (.bl b'), some (.int (i : Int)), some (.int wl.lo), some (.int wl.hi), some (.int wl.sd), x8, x9] H5
        have A5 := A4.ex e5
        -- ((low, high), (high, low))
        refine ⟨_, rfl, _, rfl, by show 2 ≤ sizeLine; decide, fun t1 n1 => ⟨_, rfl, _, rfl, by show 2 ≤ sizeLine; decide, fun t2 n2 => ⟨by show 2 ≤ sizeLine; decide, fun t n => ?_⟩⟩⟩
        have e6 : Ex T H5 (upd (upd (upd H5 t1 (.tup [.int wl.lo, .int wl.hi])) t2 (.tup [.int wl.hi, .int wl.lo])) t (.tup [.ref t1, .ref t2])) := ((Ex.new n1).trans (Ex.new n2)).trans (Ex.new n)
        have f1 : (upd (upd (upd H5 t1 (.tup [.int wl.lo, .int wl.hi])) t2 (.tup [.int wl.hi, .int wl.lo])) t (.tup [.ref t1, .ref t2])) t1 = some (.tup [.int wl.lo, .int wl.hi]) := (Ex.new (T := T) n).tup ((Ex.new (T := T) n2).tup upd_same)
        have f2 : (upd (upd (upd H5 t1 (.tup [.int wl.lo, .int wl.hi])) t2 (.tup [.int wl.hi, .int wl.lo])) t (.tup [.ref t1, .ref t2])) t2 = some (.tup [.int wl.hi, .int wl.lo]) := (Ex.new (T := T) n).tup upd_same
        have f3 : (upd (upd (upd H5 t1 (.tup [.int wl.lo, .int wl.hi])) t2 (.tup [.int wl.hi, .int wl.lo])) t (.tup [.ref t1, .ref t2])) t = some (.tup [.ref t1, .ref t2]) := upd_same
        generalize (upd (upd (upd H5 t1 (.tup [.int wl.lo, .int wl.hi])) t2 (.tup [.int wl.hi, .int wl.lo])) t (.tup [.ref t1, .ref t2])) = H6 at e6 f1 f2 f3 ⊢
        have A6 := A5.ex e6
        refine ⟨t, rfl, ⟨_, .of f3⟩, for_tup (K := K) (xs := [.ref t1, .ref t2]) (fun k σ H' => ∃ ns' b' x8 x9, σ = [some v, some (.ref la), some (.ref p), some (.bl b'), some (.int (i : Int)), some (.int wl.lo), some (.int wl.hi), some (.int wl.sd), x8, x9] ∧ At T H p ns' H' ∧ Tk H6 H' ∧
            Pass many ws ns (fun ns' => ((∀ j w, j < i → ws[j]? = some w → Shut w ns') ∧ (1 ≤ k → Shut1 wl ns' wl.lo)) ∧ (2 ≤ k → Shut1 wl ns' wl.hi)) ns' b')
          ⟨ns', b', _, _, rfl, A6, Tk.refl _, P4.come, P4.le, P4.up, fun h => ⟨(P4.no h).1, ⟨(P4.no h).2, fun h => absurd h (by omega)⟩, fun h => absurd h (by omega)⟩⟩ (fun k σ H' _ ⟨_, _, _, _, _, _, h, _⟩ => h.sqt (.of f3)) ?_ ?_⟩
        · -- one turn: from a side to the other
          have turn : ∀ (k : Nat) (s1 s2 : Int) (tt : Addr) (ns' : List Int) (b' : Bool) (H' : Hp) (x8 x9 : Option V) (C C' : List Int → Prop) (D : Ends), (s1 = wl.lo ∨ s1 = wl.hi) → other wl s1 = s2 → At T H p ns' H' → Tk H6 H' → H6 tt = some (.tup [.int s1, .int s2]) → Pass many ws ns C ns' b' → (∀ n, C n ∧ Shut1 wl n s1 → C' n) →
              (∀ ns2 b2 H2, At T H p ns2 H2 → Tk H6 H2 → Pass many ws ns C' ns2 b2 → D.nx [some v, some (.ref la), some (.ref p), some (.bl b2), some (.int (i : Int)), some (.int wl.lo), some (.int wl.hi), some (.int wl.sd), some (.int s1), some (.int s2)] H2) →
              tIfS (tAnd (tTest (tOp (rIn K false) (tVar 8) (tVar 2))) (tAnd (tTest (tOp (rIn K true) (tVar 9) (tVar 2))) (tTest (tOp (rIn K false) (tVar 8) (tDfn (sp_sides_of T K) (tCons (tOp (rIxT K) (tOp (rIxT K) (tVar 0) (tC (.int 1))) (tVar 4)) tNil))))))
                (tSeq (tDrop (tBM K "list" rAppend (tVar 2) (tCons (tVar 9) tNil))) (tAsg (tC (.bl true)) (gName 3))) tNext D
                [some v, some (.ref la), some (.ref p), some (.bl b'), some (.int (i : Int)), some (.int wl.lo), some (.int wl.hi), some (.int wl.sd), some (.int s1), some (.int s2)] H' := by
            intro k s1 s2 tt ns' b' H' x8 x9 C C' D hs he A' k' ft P' hC hD
            have t1 := et_test (ev_inL (K := K) (neg := false) (i := s1) (ev_var (T := T) (H := H') (i := 8) (σ := [some v, some (.ref la), some (.ref p), some (.bl b'), some (.int (i : Int)), some (.int wl.lo), some (.int wl.hi), some (.int wl.sd), some (.int s1), some (.int s2)]) rfl) (ev_varL (i := 2) (fun _ => stb_eqI) rfl A'.ll))
            have t2 := et_test (ev_inL (K := K) (neg := true) (i := s2) (ev_var (T := T) (H := H') (i := 9) (σ := [some v, some (.ref la), some (.ref p), some (.bl b'), some (.int (i : Int)), some (.int wl.lo), some (.int wl.hi), some (.int wl.sd), some (.int s1), some (.int s2)]) rfl) (ev_varL (i := 2) (fun _ => stb_eqI) rfl A'.ll))
            have t3 := et_test (ev_inT (K := K) (neg := false) (i := s1) (ev_var (T := T) (H := H') (i := 8) (σ := [some v, some (.ref la), some (.ref p), some (.bl b'), some (.int (i : Int)), some (.int wl.lo), some (.int wl.hi), some (.int wl.sd), some (.int s1), some (.int s2)]) rfl) (ev_sides_of (wall rfl rfl A'.1) wok))
            have ps := pass_step P' hmem wok hs
            rw [he] at ps
            refine s_if (et_and t1 fun _ => et_and t2 fun _ => t3) (fun hb H7 e7 => ?_) (fun hb H7 e7 => ?_)
            · simp at hb
              have P7 := ps.1 ⟨hb.1, hb.2.1, hb.2.2⟩
              have A7 := A'.ex e7
              have lb := come_len P'.come g2
              refine q_app (T := T) (i := 2) rfl A7.2.2 (by rw [List.length_map]; omega) (ev_var (i := 9) rfl) fun v9 H8 e8 hv9 => ?_
              subst hv9
              have A8 := A7.ex e8
              exact hD _ _ _ A8.add (((k'.trans e7.tk).trans e8.tk).trans (Tk.upd A8.2.2)) ⟨P7.come, P7.le, P7.up, fun h => ⟨(P7.no h).1, hC _ (P7.no h).2⟩⟩
            · simp at hb
              have P7 := ps.2 (fun ⟨h1, h2, h3⟩ => hb h1 h2 h3)
              exact hD _ _ _ (A'.ex e7) (k'.trans e7.tk) ⟨P7.come, P7.le, P7.up, fun h => ⟨(P7.no h).1, hC _ (P7.no h).2⟩⟩
          rintro k x σ H' hk ⟨ns', b', x8, x9, rfl, A', k', P'⟩
          rcases k with _ | _ | k
          · cases hk
            refine ⟨t1, _, rfl, .of ((k' t1).1 _ f1), rfl, _, _, rfl, _, _, rfl, rfl, ?_⟩
            exact turn 0 wl.lo wl.hi t1 ns' b' H' x8 x9 _ (fun ns' => ((∀ j w, j < i → ws[j]? = some w → Shut w ns') ∧ (1 ≤ 1 → Shut1 wl ns' wl.lo)) ∧ (2 ≤ 1 → Shut1 wl ns' wl.hi)) _ (.inl rfl) (by unfold other; omega) A' k' f1 P' (fun n h => ⟨⟨h.1.1.1, fun _ => h.2⟩, fun h => absurd h (by omega)⟩)
              fun ns2 b2 H2 A2 k2 P2 => ⟨ns2, b2, _, _, rfl, A2, k2, P2⟩
          · cases hk
            refine ⟨t2, _, rfl, .of ((k' t2).1 _ f2), rfl, _, _, rfl, _, _, rfl, rfl, ?_⟩
            exact turn 1 wl.hi wl.lo t2 ns' b' H' x8 x9 _ (fun ns' => ((∀ j w, j < i → ws[j]? = some w → Shut w ns') ∧ (1 ≤ 2 → Shut1 wl ns' wl.lo)) ∧ (2 ≤ 2 → Shut1 wl ns' wl.hi)) _ (.inr rfl) (by unfold other; omega) A' k' f2 P' (fun n h => ⟨⟨h.1.1.1, fun _ => h.1.1.2 (by omega)⟩, fun _ => h.2⟩)
              fun ns2 b2 H2 A2 k2 P2 => ⟨ns2, b2, _, _, rfl, A2, k2, P2⟩
          · simp at hk
        · rintro σ H' ⟨ns', b', x8, x9, rfl, A', k', P'⟩
          refine ⟨ns', b', _, _, _, _, _, _, rfl, A', P'.come, P'.le, P'.up, fun h => ⟨(P'.no h).1, fun j w hj hw => ?_⟩⟩
          obtain ⟨⟨h1, h2⟩, h3⟩ := (P'.no h).2
          by_cases e : j = i
          · subst e
            rw [hwl] at hw
            cases hw
            exact ⟨h2 (by show 1 ≤ 2; decide), h3 (by show 2 ≤ 2; decide)⟩
          · exact h1 j w (by omega) hw
      · rintro σ H' ⟨ns', b', x4, x5, x6, x7, x8, x9, rfl, A4, P4⟩
        refine ⟨ns', b', x4, x5, x6, x7, x8, x9, rfl, A4, P4.come, P4.le, P4.up, fun h => ⟨(P4.no h).1, fun w hw => ?_⟩⟩
        obtain ⟨j, hj⟩ := List.mem_iff_getElem?.mp hw
        refine (P4.no h).2 j w ?_ hj
        rw [List.length_map]
        simpa [evL] using (List.getElem?_eq_some_iff.mp hj).1
theorem ev_reached {σ : L2.St} {H : Hp} {ta tb : TE} {many : Int} {ws : List Wall} (h : Ev T ta σ H (YT K many ws)) (h2 : Ev T tb σ H (IT K (evL ws.length))) (ho : YOk many ws) : Ev T (tDfn (sp_reached T K) (tCons ta (tCons tb tNil))) σ H (fun v H' => ∃ rs : List Int, LL eqI rs v H' ∧ ∀ r, r ∈ rs ↔ Reach ws r) :=
  ev_dfn (ea_two h YT.stb h2) fun vs H1 e ⟨v, v', ev, p, p'⟩ Q q => ⟨v, v', many, ws, ev, p, ho, p', q⟩
end
end WI
set_option maxRecDepth 100000
/-! has_order, is_growth. -/
namespace WI
open PySem PySem.Spec L2 LamX RZ
theorem good_bool {ws : List Wall} {rs : List Int} (h : ∀ r, r ∈ rs ↔ Reach ws r) : (ws.all fun wl => (sides wl).any fun r => decide (r ∈ rs)) = tv (Good ws) := by
  refine tv_eq ?_
  rw [List.all_eq_true]
  constructor
  · intro q wl hw
    obtain ⟨s, hs, h2⟩ := List.any_eq_true.mp (q wl hw)
    exact ⟨s, hs, (h s).mp (by simpa using h2)⟩
  · intro q wl hw
    obtain ⟨s, hs, h2⟩ := q wl hw
    exact List.any_eq_true.mpr ⟨s, hs, by simpa using (h s).mpr h2⟩
theorem all_map_id {α : Type} (l : List α) (g : α → Bool) : ((l.filter fun _ => true).map g).all id = l.all g := by
  rw [filt_true, List.all_map]; rfl
theorem any_map_id {α : Type} (l : List α) (g : α → Bool) : ((l.filter fun _ => true).map g).any id = l.any g := by
  rw [filt_true, List.any_map]; rfl
section
variable {T : LTab} {P : Program} {w : World} {K : PySem.W.Frag} {mg : Str → Option Value} {base : Heap}
/-- any([room in rooms for room in sides]) -/
theorem ev_anyIn {σ : L2.St} {H : Hp} {ts : TE} {ns rs : List Int} {vr : V} {i j : Nat} {vs : List Nat} (h : Ev T ts σ H (IT K ns)) (hl : ns.length ≤ 40000) (hr : LL eqI rs vr H) (hw : ∀ x, wipe ((wipe σ vs).set j (some x)) vs = wipe σ vs)
    (hj : ∀ x, ((wipe σ vs).set j (some x))[j]? = some (some x)) (hi : ∀ x, ((wipe σ vs).set j (some x))[i]? = some (some vr)) :
    Ev T (tCB (rAny K) (tCons (tLc (iTup K ts) (gName j) tYes (tOp (rIn K false) (tVar j) (tVar i)) vs) tNil)) σ H (fun v _ => v = .bl (ns.any fun r => decide (r ∈ rs))) := by
  have lc := ev_lcT (β := Unit) (T := T) (K := K) (tl := ts) (te := tOp (rIn K false) (tVar j) (tVar i)) (tt := tYes) (σ := σ) (j := j) (vs := vs) (Ps := eqI) (Pe := fun d x _ => x = .bl ((fun r => decide (r ∈ rs)) d)) (ds := ns) (fun _ => true)
    (h.imp fun v H2 _ h => IT.tt h) (fun d => stb_eq) hl hw (fun _ _ _ _ _ _ => et_yes) (fun d x H1 hd e hx _ => by
      subst hx
      exact ev_inL (neg := false) (ev_var (hj _)) (ev_varL (fun _ => stb_eqI) (hi _) (hr.ex (fun _ => stb_eqI) e)))
  have := ev_any (K := K) (lc.imp fun v H2 _ h => LL.bools h)
  rw [any_map_id] at this
  exact this
def sp_has_order (T : LTab) (K : PySem.W.Frag) : Sp := fun vs H Q _ => ∃ (v : V) (many : Int) (ws : List Wall), vs = [v] ∧ YT K many ws v H ∧ YOk many ws ∧ Pure T (fun v _ => v = .bl (tv (Good ws))) H Q
theorem sides_len (w : Wall) : (sides w).length ≤ 2 := by
  unfold sides
  split
  · simp
  · split <;> simp
theorem ok_has_order {f : Addr} {fd : FuncData} (F : Fun K "has_order" "has_order" s_has_order f fd) (G : Bn mg) (D_need_yard : Dfn P w K mg base 4 "need_yard" ["value"] (sp_need_yard T K)) (D_every : Dfn P w K mg base 1 "every" ["yard"] (sp_every T K)) (D_sides_of : Dfn P w K mg base 1 "sides_of" ["wall"] (sp_sides_of T K))
    (D_reached : Dfn P w K mg base 2 "reached" ["yard", "lot"] (sp_reached T K)) : FnOk P w K mg base CX0 5 f fd ["yard"] (sp_has_order T K) := by
  refine F.ok sc_has_order (fun vs H Q E h => ?_) (fun cdv A outer s H vs Q E hr h => ?_)
  · obtain ⟨v, many, ws, rfl, _⟩ := h
    rfl
  · obtain ⟨v, many, ws, rfl, hv, ho, q⟩ := h
    refine ⟨_, (pss_cons (ps_expr (pe_dfn D_need_yard (hr.mono (by decide)) (pa_cons (pv 0) pa_nil)))
      (pss_cons (ps_set (i := 1) sc_has_order.nd rfl (by first | exact Or.inl rfl | exact Or.inr rfl) (pe_dfn D_reached (hr.mono (by decide)) (pa_cons (pv 0) (pa_cons (pe_dfn D_every (hr.mono (by decide)) (pa_cons (pv 0) pa_nil)) pa_nil))))
      (pss_one (ps_ret (pe_callB (k_all K rfl rfl) (by rfl) G.all_ (by decide +kernel) (pa_cons (pe_lc (own := [("wall", 3)]) rfl sc_has_order.nd (k_tup K (pe_ix (k_ix_tup K rfl) (pv 0) pe_int (fun _ _ => rfl)) rfl) (blkOk_by (own := [("wall", 3)]) (N := N_has_order) (by show blkC _ (defScope s_has_order) _ _ = true; decide +kernel)) (fun _ _ _ _ _ => (pg_name (i := 3) sc_has_order.nd rfl (by first | exact Or.inl rfl | exact Or.inr rfl))) (fun _ _ _ _ _ => pts_nil) (fun _ _ _ _ _ => (pe_callB (k_any K rfl rfl) (by rfl) G.any_ (by decide +kernel) (pa_cons (pe_lc (own := [("room", 2)]) rfl sc_has_order.nd (k_tup K (pe_dfn D_sides_of (hr.mono (by decide)) (pa_cons (pv 3) pa_nil)) rfl) (blkOk_by (own := [("room", 2)]) (N := N_has_order) (by show blkC _ (relS _ (defScope s_has_order)) _ _ = true; decide +kernel)) (fun _ _ _ _ _ => (pg_name (i := 2) sc_has_order.nd rfl (by first | exact Or.inl rfl | exact Or.inr rfl))) (fun _ _ _ _ _ => pts_nil) (fun _ _ _ _ _ => (pe_cmpR (k_in K rfl) (pv 2) (pv 1) rfl))) pa_nil)))) pa_nil)))))), ?_⟩
    have y0 : ∀ {σ H1} , σ[0]? = some (some v) → Ex T H H1 → Ev T (tVar 0) σ H1 (YT K many ws) := fun h e => ev_varP YT.stb h (YT.stb.ex hv e)
    have g3 := ho.wl
    refine q_drop (ev_need_yard (y0 rfl (Ex.refl H)) ho) fun H1 e1 => ?_
    refine q_asg (ev_reached (y0 rfl e1) (ev_every (y0 rfl e1) g3) ho) fun vr H2 e2 ⟨rs, hr2, hrs⟩ => ?_
    have lc := ev_lcT (β := Unit) (T := T) (K := K) (tl := tOp (rIxT K) (tVar 0) (tC (.int 1))) (te := tCB (rAny K) (tCons (tLc (iTup K (tDfn (sp_sides_of T K) (tCons (tVar 3) tNil))) (gName 2) tYes (tOp (rIn K false) (tVar 2) (tVar 1)) [2]) tNil)) (tt := tYes)
      (σ := [some v, some vr, none, none]) (j := 3) (vs := [3]) (Ps := WV K) (Pe := fun wl x _ => x = .bl ((fun wl => (sides wl).any fun r => decide (r ∈ rs)) wl)) (ds := ws) (fun _ => true)
      (H := H2) (ev_yard1 (y0 rfl (e1.trans e2)) ev_c) (fun _ => stb_eq) (by omega) (fun _ => rfl) (fun _ _ _ _ _ _ => et_yes) (fun wl x H3 hw e hx _ =>
        ev_anyIn (i := 1) (j := 2) (ev_sides_of (ev_varP (WV.stb wl) rfl hx) (ho.wo wl hw)) (Nat.le_trans (sides_len wl) (by decide)) (hr2.ex (fun _ => stb_eqI) e) (fun _ => rfl) (fun _ => rfl) (fun _ => rfl))
    have al := ev_all (K := K) (lc.imp fun v H2 _ h => LL.bools h)
    rw [all_map_id, good_bool hrs] at al
    exact s_ret al fun v3 H3 e3 hv3 => q _ _ ((e1.trans e2).trans e3) hv3
theorem ev_has_order {σ : L2.St} {H : Hp} {ta : TE} {many : Int} {ws : List Wall} (h : Ev T ta σ H (YT K many ws)) (ho : YOk many ws) : Ev T (tDfn (sp_has_order T K) (tCons ta tNil)) σ H (fun v _ => v = .bl (tv (Good ws))) :=
  ev_dfn (ea_one h) fun vs H1 e ⟨v, ev, p⟩ Q q => ⟨v, many, ws, ev, p, ho, q⟩

theorem evL_get {n i : Nat} (h : i < n) : (evL n)[i]? = some (i : Int) := by
  unfold evL
  rw [List.getElem?_map, List.getElem?_range h]
  rfl
theorem evL_mem {n : Nat} {d : Int} (h : d ∈ evL n) : ∃ i : Nat, i < n ∧ d = (i : Int) := by
  obtain ⟨i, hi, e⟩ := List.mem_map.mp h
  exact ⟨i, List.mem_range.mp hi, e.symm⟩
theorem evL_len (n : Nat) : (evL n).length = n := by simp [evL]
theorem evL_all {ws : List Wall} (g : Wall → Bool) (g' : Int → Bool) (h : ∀ (i : Nat) (w : Wall), ws[i]? = some w → g' (i : Int) = g w) : (evL ws.length).all g' = ws.all g := by
  rw [Bool.eq_iff_iff, List.all_eq_true, List.all_eq_true]
  constructor
  · intro q w hw
    obtain ⟨i, hi⟩ := List.mem_iff_getElem?.mp hw
    have := q (i : Int) (List.mem_of_getElem? (evL_get (List.getElem?_eq_some_iff.mp hi).1))
    rw [h i w hi] at this
    exact this
  · intro q d hd
    obtain ⟨i, hi, rfl⟩ := evL_mem hd
    have e : ws[i]? = some ws[i] := List.getElem?_eq_getElem hi
    rw [h i _ e]
    exact q _ (List.mem_of_getElem? e)
def sp_is_growth (T : LTab) (K : PySem.W.Frag) : Sp := fun vs H Q _ => ∃ (v l : V) (many : Int) (ws : List Wall), vs = [v, l] ∧ YT K many ws v H ∧ YOk many ws ∧ IT K (evL ws.length) l H ∧ Pure T (fun v _ => v = .bl (tv (Good ws))) H Q
theorem ok_is_growth {f : Addr} {fd : FuncData} (F : Fun K "is_growth" "is_growth" s_is_growth f fd) (G : Bn mg) (D_sides_of : Dfn P w K mg base 1 "sides_of" ["wall"] (sp_sides_of T K))
    (D_reached : Dfn P w K mg base 2 "reached" ["yard", "lot"] (sp_reached T K)) : FnOk P w K mg base CX0 3 f fd ["yard", "lot"] (sp_is_growth T K) := by
  refine F.ok sc_is_growth (fun vs H Q E h => ?_) (fun cdv A outer s H vs Q E hr h => ?_)
  · obtain ⟨v, l, many, ws, rfl, _⟩ := h
    rfl
  · obtain ⟨v, l, many, ws, rfl, hv, ho, hl, q⟩ := h
    refine ⟨_, (pss_cons (ps_set (i := 2) sc_is_growth.nd rfl (by first | exact Or.inl rfl | exact Or.inr rfl) (pe_dfn D_reached (hr.mono (by decide)) (pa_cons (pv 0) (pa_cons (pv 1) pa_nil))))
      (pss_one (ps_ret (pe_callB (k_all K rfl rfl) (by rfl) G.all_ (by decide +kernel) (pa_cons (pe_lc (own := [("number", 4)]) rfl sc_is_growth.nd (k_tup K (pv 1) rfl) (blkOk_by (own := [("number", 4)]) (N := N_is_growth) (by show blkC _ (defScope s_is_growth) _ _ = true; decide +kernel)) (fun _ _ _ _ _ => (pg_name (i := 4) sc_is_growth.nd rfl (by first | exact Or.inl rfl | exact Or.inr rfl))) (fun _ _ _ _ _ => pts_nil) (fun _ _ _ _ _ => (pe_callB (k_any K rfl rfl) (by rfl) G.any_ (by decide +kernel) (pa_cons (pe_lc (own := [("room", 3)]) rfl sc_is_growth.nd (k_tup K (pe_dfn D_sides_of (hr.mono (by decide)) (pa_cons (pe_ix (k_ix_tup K rfl) (pe_ix (k_ix_tup K rfl) (pv 0) pe_int (fun _ _ => rfl)) (pv 4) (fun _ _ => rfl)) pa_nil)) rfl) (blkOk_by (own := [("room", 3)]) (N := N_is_growth) (by show blkC _ (relS _ (defScope s_is_growth)) _ _ = true; decide +kernel)) (fun _ _ _ _ _ => (pg_name (i := 3) sc_is_growth.nd rfl (by first | exact Or.inl rfl | exact Or.inr rfl))) (fun _ _ _ _ _ => pts_nil) (fun _ _ _ _ _ => (pe_cmpR (k_in K rfl) (pv 3) (pv 2) rfl))) pa_nil)))) pa_nil))))), ?_⟩
    have y0 : ∀ {σ H1} , σ[0]? = some (some v) → Ex T H H1 → Ev T (tVar 0) σ H1 (YT K many ws) := fun h e => ev_varP YT.stb h (YT.stb.ex hv e)
    have l0 : ∀ {σ H1} , σ[1]? = some (some l) → Ex T H H1 → Ev T (tVar 1) σ H1 (IT K (evL ws.length)) := fun h e => ev_varP IT.stb h (IT.stb.ex hl e)
    have g3 := ho.wl
    refine q_asg (ev_reached (y0 rfl (Ex.refl H)) (l0 rfl (Ex.refl H)) ho) fun vr H2 e2 ⟨rs, hr2, hrs⟩ => ?_
    have lc := ev_lcT (β := Unit) (T := T) (K := K) (tl := tVar 1) (te := tCB (rAny K) (tCons (tLc (iTup K (tDfn (sp_sides_of T K) (tCons (tOp (rIxT K) (tOp (rIxT K) (tVar 0) (tC (.int 1))) (tVar 4)) tNil))) (gName 3) tYes (tOp (rIn K false) (tVar 3) (tVar 2)) [3]) tNil)) (tt := tYes)
      (σ := [some v, some l, some vr, none, none]) (j := 4) (vs := [4]) (Ps := eqI) (Pe := fun d x _ => x = .bl ((fun d : Int => (sides (ws.getD d.toNat ⟨0, 0, 0⟩)).any fun r => decide (r ∈ rs)) d)) (ds := evL ws.length) (fun _ => true)
      (H := H2) ((l0 rfl e2).imp fun v H2 _ h => IT.tt h) (fun _ => stb_eq) (by rw [evL_len]; omega) (fun _ => rfl) (fun _ _ _ _ _ _ => et_yes) (fun d x H3 hd e hx _ => by
        obtain ⟨i, hi, rfl⟩ := evL_mem hd
        subst hx
        have ei : ws[i]? = some ws[i] := List.getElem?_eq_getElem hi
        have eg : ws.getD (i : Int).toNat ⟨0, 0, 0⟩ = ws[i] := by rw [Int.toNat_natCast, List.getD_eq_getElem?_getD, ei]; rfl
        have hg : ∀ y : Wall, y = ws.getD (i : Int).toNat ⟨0, 0, 0⟩ → y = ws[i] := fun y h => h.trans eg
        show Ev T _ _ _ (fun x _ => x = V.bl ((sides (ws.getD (i : Int).toNat ⟨0, 0, 0⟩)).any fun r => decide (r ∈ rs)))
        rw [eg]
        exact ev_anyIn (i := 2) (j := 3) (ev_sides_of (ev_ixT WV.stb (ev_yard1 (y0 rfl (e2.trans e)) ev_c) (ev_var rfl) ei) (ho.wo _ (List.mem_of_getElem? ei))) (Nat.le_trans (sides_len _) (by decide)) (hr2.ex (fun _ => stb_eqI) e) (fun _ => rfl) (fun _ => rfl) (fun _ => rfl))
    have al := ev_all (K := K) (lc.imp fun v H2 _ h => LL.bools h)
    rw [all_map_id, evL_all (fun wl => (sides wl).any fun r => decide (r ∈ rs)) _ (fun i wl hi => by
      show ((sides (ws.getD (i : Int).toNat ⟨0, 0, 0⟩)).any fun r => decide (r ∈ rs)) = _
      rw [Int.toNat_natCast, List.getD_eq_getElem?_getD, hi]; rfl), good_bool hrs] at al
    exact s_ret al fun v3 H3 e3 hv3 => q _ _ (e2.trans e3) hv3
theorem ev_is_growth {σ : L2.St} {H : Hp} {ta tb : TE} {many : Int} {ws : List Wall} (h : Ev T ta σ H (YT K many ws)) (h2 : Ev T tb σ H (IT K (evL ws.length))) (ho : YOk many ws) : Ev T (tDfn (sp_is_growth T K) (tCons ta (tCons tb tNil))) σ H (fun v _ => v = .bl (tv (Good ws))) :=
  ev_dfn (ea_two h YT.stb h2) fun vs H1 e ⟨v, v', ev, p, p'⟩ Q q => ⟨v, v', many, ws, ev, p, ho, p', q⟩
end
end WI
set_option maxRecDepth 100000
/-! walledin.choices: sides chosen, turned. -/
namespace WI
open PySem PySem.Spec L2 LamX RZ StX
def reside (w : Wall) (s : Int) : Wall := ⟨w.lo, w.hi, s⟩
def SdOk (s : Int) : Prop := s = 0 ∨ s = 1 ∨ s = 2
theorem reside_ok {many : Int} {w : Wall} {s : Int} (h : WallOk many w) (hs : SdOk s) : WallOk many (reside w s) := ⟨h.h0, h.hl, h.hm, hs⟩
theorem reside_self (w : Wall) : reside w w.sd = w := rfl
def resides (ws : List Wall) (sds : List Int) : List Wall := (ws.zip sds).map fun p => reside p.1 p.2
theorem resides_self (ws : List Wall) : resides ws (ws.map (·.sd)) = ws := by
  unfold resides
  induction ws with
  | nil => rfl
  | cons w ws ih => rw [List.map_cons, List.zip_cons_cons, List.map_cons, ih]; rfl
theorem resides_turn (lot : List Int) (ws : List Wall) : resides ws ((turn lot ws).map (·.sd)) = turn lot ws := by
  apply List.ext_getElem?
  intro i
  unfold resides
  rw [List.getElem?_map, turn_get]
  cases e : ws[i]? with
  | none =>
    rw [show (ws.zip ((turn lot ws).map (·.sd)))[i]? = none from by
      rw [List.getElem?_eq_none_iff]
      have := List.getElem?_eq_none_iff.mp e
      rw [List.length_zip]
      omega]
    rfl
  | some w =>
    rw [show (ws.zip ((turn lot ws).map (·.sd)))[i]? = some (w, (turnAt lot i w).sd) from by
      rw [List.getElem?_zip_eq_some, List.getElem?_map, turn_get, e]
      exact ⟨rfl, rfl⟩]
    show some (reside w (turnAt lot i w).sd) = some (turnAt lot i w)
    congr 1
    have h1 := turnAt_lo (lot := lot) (i := i) (w := w)
    have h2 := turnAt_hi (lot := lot) (i := i) (w := w)
    cases h : turnAt lot i w with
    | mk a b c =>
      rw [h] at h1 h2
      unfold reside
      cases h1
      cases h2
      rfl
theorem resides_len {ws : List Wall} {sds : List Int} (h : sds.length = ws.length) : (resides ws sds).length = ws.length := by
  unfold resides
  rw [List.length_map, List.length_zip, h, Nat.min_self]
theorem resides_ok {many : Int} {ws : List Wall} {sds : List Int} (h : YOk many ws) (hl : sds.length = ws.length) (hs : ∀ s ∈ sds, SdOk s) : YOk many (resides ws sds) := by
  refine ⟨h.m1, h.m9, by rw [resides_len hl]; exact h.wl, fun w hw => ?_⟩
  obtain ⟨⟨w', s⟩, hm, rfl⟩ := List.mem_map.mp hw
  have := List.of_mem_zip hm
  exact reside_ok (h.wo _ this.1) (hs _ this.2)
theorem turn_yok {many : Int} {ws : List Wall} {lot : List Int} (h : YOk many ws) : YOk many (turn lot ws) := ⟨h.m1, h.m9, by rw [turn_len]; exact h.wl, turn_ok h.wo⟩
section
variable {T : LTab} {P : Program} {w : World} {K : PySem.W.Frag} {mg : Str → Option Value} {base : Heap}
theorem ev_tupleLL {α : Type} {σ : L2.St} {H : Hp} {te : TE} {Pp : α → V → Hp → Prop} (sP : ∀ d, Stb (Pp d)) {ds : List α} (h : Ev T te σ H (LL Pp ds)) : Ev T (tThen te (kTup K)) σ H (TT' K Pp ds) := ev_tupleOf sP h
theorem ea_star {σ : L2.St} {H : Hp} {te : TE} {t : TA} {ns : List Int} {ys : List V} (h : Ev T te σ H (IT K ns)) (ht : EvA T t σ H (fun vs _ => vs = ys)) : EvA T (tStar K te t) σ H (fun vs _ => vs = ns.map V.int ++ ys) := fun H1 e Q q =>
  h H1 e _ fun v H2 e2 ⟨a, ev, hs⟩ => ⟨a, _, ev, .inl hs, ht H2 (e.trans e2) _ fun vs H3 e3 p => q _ H3 (e2.trans e3) (by rw [p])⟩
/-- a display of a yard -/
theorem ev_yardTup {σ : L2.St} {H : Hp} {ta tb : TE} {many : Int} {ws : List Wall} (ha : Ev T ta σ H (fun v _ => v = .int many)) (hb : Ev T tb σ H (TT' K (WV K) ws)) : Ev T (tTup (tCons ta (tCons tb tNil))) σ H (YT K many ws) := fun H1 e Q q =>
  ha H1 e _ fun v H2 e2 hv => hb H2 (e.trans e2) _ fun y H3 e3 hy => by
    subst hv
    refine ⟨by show 2 ≤ sizeLine; decide, fun p np => q _ _ ((e2.trans e3).trans (Ex.new np)) ⟨p, y, rfl, .of upd_same, (TT'.stb WV.stb).ex (T := T) hy (Ex.new np)⟩⟩

def sp_need_sides (T : LTab) (K : PySem.W.Frag) : Sp := fun vs H Q _ => ∃ (v l : V) (many : Int) (ws : List Wall) (sds : List Int), vs = [v, l] ∧ YT K many ws v H ∧ IT K sds l H ∧ sds.length = ws.length ∧ sds.length ≤ 12 ∧ (∀ s ∈ sds, SdOk s) ∧ Pure T (fun v _ => v = .non) H Q
theorem ok_need_sides {f : Addr} {fd : FuncData} (F : Fun K "need_sides" "need_sides" s_need_sides f fd) (G : Bn mg) (D_is_int : Dfn P w K mg base 1 "is_int" ["value"] (sp_is_int T)) : FnOk P w K mg base CX0 2 f fd ["yard", "value"] (sp_need_sides T K) := by
  refine F.ok sc_need_sides (fun vs H Q E h => ?_) (fun cdv A outer s H vs Q E hr h => ?_)
  · obtain ⟨v, l, many, ws, sds, rfl, _⟩ := h
    rfl
  · obtain ⟨v, l, many, ws, sds, rfl, hv, hl, hlen, h12, hs, q⟩ := h
    refine ⟨_, (pss_cons (ps_if (PW.pt (pw_or (pt_not (pt_val (pe_callB (k_isi K rfl) (by rfl) G.isinstance_ (by decide +kernel) (pa_cons (pv 1) (pa_cons (pe_bltn (by rfl) G.tuple_ (by decide +kernel) (show RelV (.ty "tuple") _ from rfl)) pa_nil))))) (pw_or1 (pt_cmpR op_ne (pe_callB (k_len K rfl) (by rfl) G.len_ PySem.boot_len (pa_cons (pv 1) pa_nil)) (pe_callB (k_len K rfl) (by rfl) G.len_ PySem.boot_len (pa_cons (pe_ix (k_ix_tup K rfl) (pv 0) pe_int (fun _ _ => rfl)) pa_nil)) (nomark _))))) (pss_one ps_never) pss_nil)
      (pss_one (ps_if (pt_not (pt_val (pe_callB (k_all K rfl rfl) (by rfl) G.all_ (by decide +kernel) (pa_cons (pe_lc (own := [("one", 2)]) rfl sc_need_sides.nd (k_tup K (pv 1) rfl) (blkOk_by (own := [("one", 2)]) (N := N_need_sides) (by show blkC _ (defScope s_need_sides) _ _ = true; decide +kernel)) (fun _ _ _ _ _ => (pg_name (i := 2) sc_need_sides.nd rfl (by first | exact Or.inl rfl | exact Or.inr rfl))) (fun _ _ _ _ _ => pts_nil) (fun _ _ _ _ _ => (pe_and (pe_dfn D_is_int (hr.mono (by decide)) (pa_cons (pv 2) pa_nil)) (pe_one (pe_cmpR (k_in K rfl) (pv 2) (pe_tup (pa_cons pe_int (pa_cons pe_int (pa_cons pe_int pa_nil)))) rfl))))) pa_nil)))) (pss_one ps_never) pss_nil))), ?_⟩
    have y0 : ∀ {σ H1} , σ[0]? = some (some v) → Ex T H H1 → Ev T (tVar 0) σ H1 (YT K many ws) := fun h e => ev_varP YT.stb h (YT.stb.ex hv e)
    have l0 : ∀ {σ H1} , σ[1]? = some (some l) → Ex T H H1 → Ev T (tVar 1) σ H1 (IT K sds) := fun h e => ev_varP IT.stb h (IT.stb.ex hl e)
    have c1 := et_not (et_B (ev_isT (l0 (σ := start N_need_sides [v, l]) rfl (Ex.refl H)) (fun v H1 ⟨a, e, h⟩ => ⟨a, _, e, h⟩)))
    have c2 := et_test (ev_neS (x := .int (sds.length : Int)) (y := .int (ws.length : Int)) rfl (ev_lenT (K := K) ((l0 (σ := start N_need_sides [v, l]) rfl (Ex.refl H)).imp fun v H2 _ h => IT.tt h)) (ev_lenT (ev_yard1 (y0 rfl (Ex.refl H)) ev_c)))
    refine q_no (et_is (et_or c1 fun _ => c2) (by simp [hlen])) fun H1 e1 => ?_
    have lc := ev_lcT (β := Unit) (T := T) (K := K) (tl := tVar 1) (te := tAndV (tDfn (sp_is_int T) (tCons (tVar 2) tNil)) (tOp (rIn K false) (tVar 2) (tTup (tCons (tC (.int 0)) (tCons (tC (.int 1)) (tCons (tC (.int 2)) tNil)))))) (tt := tYes) (σ := start N_need_sides [v, l]) (j := 2) (vs := [2])
      (Ps := eqI) (Pe := fun d x _ => x = .bl ((fun _ => true) d)) (ds := sds) (fun _ => true) (H := H1) ((l0 rfl e1).imp fun v H2 _ h => IT.tt h) (fun d => stb_eq) (by omega) (fun _ => rfl) (fun d x H1 _ _ _ => et_yes) (fun d x H2 hd e hx _ => by
        subst hx
        refine (ev_andV (a := true) (b := true) (ev_dfn (ea_consV (ev_var (v := .int d) rfl) ea_nil) fun vs H1 e p Q q => ⟨d, p, q⟩) fun _ => ?_)
        have h3 := ev_inT (T := T) (K := K) (H := H2) (neg := false) (i := d) (ns := [0, 1, 2]) (ev_var (i := 2) (σ := (wipe (start N_need_sides [v, l]) [2]).set 2 (some (.int d))) rfl) (ev_tupI (ea_consV ev_c (ea_consV ev_c (ea_consV ev_c ea_nil))) (by decide))
        refine h3.imp fun v _ _ hv => hv.trans (congrArg V.bl ?_)
        have := hs d hd
        unfold SdOk at this
        simp
        omega)
    have al := ev_all (K := K) (lc.imp fun v H2 _ h => LL.bools h)
    exact s_no (et_is (et_not (et_B al)) (by rw [all_map_id]; simp)) fun H2 e2 => q _ _ (e1.trans e2) rfl

def sp_chosen (T : LTab) (K : PySem.W.Frag) : Sp := fun vs H Q _ => ∃ (v l : V) (many : Int) (ws : List Wall) (sds : List Int), vs = [v, l] ∧ YT K many ws v H ∧ (IT K sds l H ∨ LL eqI sds l H) ∧ ws.length ≤ 12 ∧ Pure T (YT K many (resides ws sds)) H Q
theorem ok_chosen {f : Addr} {fd : FuncData} (F : Fun K "chosen" "chosen" s_chosen f fd) (G : Bn mg) : FnOk P w K mg base CX0 1 f fd ["yard", "sides"] (sp_chosen T K) := by
  refine F.ok sc_chosen (fun vs H Q E h => ?_) (fun cdv A outer s H vs Q E hr h => ?_)
  · obtain ⟨v, l, many, ws, sds, rfl, _⟩ := h
    rfl
  · obtain ⟨v, l, many, ws, sds, rfl, hv, hl, h12, q⟩ := h
    refine ⟨_, (pss_one (ps_ret (pe_tup (pa_cons (pe_ix (k_ix_tup K rfl) (pv 0) pe_int (fun _ _ => rfl)) (pa_cons (k_tupleOf K (by rfl) G.tuple_ (pe_lc (own := [("wall", 2), ("side", 3)]) rfl sc_chosen.nd (k_zip K (by rfl) G.zip_ (pa_cons (pe_ix (k_ix_tup K rfl) (pv 0) pe_int (fun _ _ => rfl)) (pa_cons (pv 1) pa_nil)) rfl) (blkOk_by (own := [("wall", 2), ("side", 3)]) (N := N_chosen) (by show blkC _ (defScope s_chosen) _ _ = true; decide +kernel)) (fun _ _ _ _ _ => (pg_two (K := K) (i := 2) (j := 3) rfl sc_chosen.nd rfl rfl (by first | exact Or.inl rfl | exact Or.inr rfl) (by first | exact Or.inl rfl | exact Or.inr rfl) (by first | exact Or.inl rfl | exact Or.inr rfl) (by first | exact Or.inl rfl | exact Or.inr rfl))) (fun _ _ _ _ _ => pts_nil) (fun _ _ _ _ _ => (pe_tup (k_star K (pe_slice (k_sl_tup K rfl) (pv 2) po_none (po_some pe_int)) (pa_cons (pv 3) pa_nil) rfl)))) rfl) pa_nil))))), ?_⟩
    have y0 : ∀ {σ H1} , σ[0]? = some (some v) → Ex T H H1 → Ev T (tVar 0) σ H1 (YT K many ws) := fun h e => ev_varP YT.stb h (YT.stb.ex hv e)
    have hsrc : EvA T (tCons (tOp (rIxT K) (tVar 0) (tC (.int 1))) (tCons (tVar 1) tNil)) (start N_chosen [v, l]) H (fun xs H' => ∃ x y, xs = [x, y] ∧ TT' K (WV K) ws x H' ∧ (TT' K eqI sds y H' ∨ LL eqI sds y H')) := fun H1 e Q q =>
      (ev_yard1 (y0 rfl e) ev_c).go fun x H2 e2 hx => ⟨l, rfl, q _ H2 e2 ⟨x, l, rfl, hx, hl.elim (fun h => .inl (IT.tt (IT.stb.ex h (e.trans e2)))) fun h => .inr (h.ex (fun _ => stb_eqI) (e.trans e2))⟩⟩
    have lc := ev_lcZ (T := T) (K := K) (te := tTup (tStar K (tSl (rSlA K) (tVar 2) tNoPart (tPart (tC (.int 2)))) (tCons (tVar 3) tNil))) (tt := tYes) (σ := start N_chosen [v, l]) (j1 := 2) (j2 := 3) (vs := [2, 3])
      (Ps := WV K) (Pt := eqI) (Pe := fun p : Wall × Int => WV K (reside p.1 p.2)) (fun _ => true) hsrc (fun p => WV.stb _) (by rw [List.length_zip]; omega) (fun _ _ => rfl) (fun _ _ _ _ _ _ _ _ _ => et_yes) (fun d s x y H1 hm e hx hy _ => by
        subst hy
        refine ev_tupI (ns := [d.lo, d.hi, s]) ?_ (by show 3 ≤ 40000; decide)
        exact ea_star (ns := [d.lo, d.hi]) (ev_sl (ev_varP (WV.stb d) rfl hx) eo_no (eo_part ev_c) rfl) (ea_consV (ev_var rfl) ea_nil))
    rw [filt_true] at lc
    have lt := ev_tupleLL (K := K) (T := T) (Pp := WV K) (ds := resides ws sds) WV.stb (lc.imp fun v H2 _ h => LL.map (g := fun p : Wall × Int => reside p.1 p.2) h)
    exact s_ret (ev_yardTup (ev_yard0 (y0 rfl (Ex.refl H)) ev_c) lt) fun v H1 e1 hv => q _ _ e1 hv
theorem ev_chosen {σ : L2.St} {H : Hp} {ta tb : TE} {many : Int} {ws : List Wall} {sds : List Int} (h : Ev T ta σ H (YT K many ws)) (h2 : Ev T tb σ H (fun l H => IT K sds l H ∨ LL eqI sds l H)) (hl : ws.length ≤ 12) : Ev T (tDfn (sp_chosen T K) (tCons ta (tCons tb tNil))) σ H (YT K many (resides ws sds)) :=
  ev_dfn (ea_two h YT.stb h2) fun vs H1 e ⟨v, v', ev, p, p'⟩ Q q => ⟨v, v', many, ws, sds, ev, p, p', hl, q⟩

def sp_with_sides (T : LTab) (K : PySem.W.Frag) : Sp := fun vs H Q _ => ∃ (v l : V) (many : Int) (ws : List Wall) (sds : List Int), vs = [v, l] ∧ YT K many ws v H ∧ YOk many ws ∧ IT K sds l H ∧ sds.length = ws.length ∧ (∀ s ∈ sds, SdOk s) ∧ Pure T (YT K many (resides ws sds)) H Q
theorem ok_with_sides {f : Addr} {fd : FuncData} (F : Fun K "with_sides" "with_sides" s_with_sides f fd) (D_need_yard : Dfn P w K mg base 4 "need_yard" ["value"] (sp_need_yard T K)) (D_need_sides : Dfn P w K mg base 2 "need_sides" ["yard", "value"] (sp_need_sides T K)) (D_chosen : Dfn P w K mg base 1 "chosen" ["yard", "sides"] (sp_chosen T K)) :
    FnOk P w K mg base CX0 5 f fd ["yard", "sides"] (sp_with_sides T K) := by
  refine F.ok sc_with_sides (fun vs H Q E h => ?_) (fun cdv A outer s H vs Q E hr h => ?_)
  · obtain ⟨v, l, many, ws, sds, rfl, _⟩ := h
    rfl
  · obtain ⟨v, l, many, ws, sds, rfl, hv, ho, hl, hlen, hs, q⟩ := h
    refine ⟨_, (pss_cons (ps_expr (pe_dfn D_need_yard (hr.mono (by decide)) (pa_cons (pv 0) pa_nil)))
      (pss_cons (ps_expr (pe_dfn D_need_sides (hr.mono (by decide)) (pa_cons (pv 0) (pa_cons (pv 1) pa_nil))))
      (pss_one (ps_ret (pe_dfn D_chosen (hr.mono (by decide)) (pa_cons (pv 0) (pa_cons (pv 1) pa_nil))))))), ?_⟩
    have y0 : ∀ {σ H1} , σ[0]? = some (some v) → Ex T H H1 → Ev T (tVar 0) σ H1 (YT K many ws) := fun h e => ev_varP YT.stb h (YT.stb.ex hv e)
    have l0 : ∀ {σ H1} , σ[1]? = some (some l) → Ex T H H1 → Ev T (tVar 1) σ H1 (IT K sds) := fun h e => ev_varP IT.stb h (IT.stb.ex hl e)
    have h12 := ho.wl
    refine q_drop (ev_need_yard (y0 rfl (Ex.refl H)) ho) fun H1 e1 => ?_
    refine q_drop (P := fun v _ => v = .non) (ev_dfn (ea_two (y0 rfl e1) YT.stb (l0 rfl e1)) fun vs H1 e ⟨v, v', ev, p, p'⟩ Q q => ⟨v, v', many, ws, sds, ev, p, p', hlen, by omega, hs, q⟩) fun H2 e2 => ?_
    exact s_ret (ev_chosen (y0 rfl (e1.trans e2)) ((l0 rfl (e1.trans e2)).imp fun _ _ _ h => .inl h) h12) fun v H3 e3 hv => q _ _ ((e1.trans e2).trans e3) hv

def sp_sides_of_yard (T : LTab) (K : PySem.W.Frag) : Sp := fun vs H Q _ => ∃ (v : V) (many : Int) (ws : List Wall), vs = [v] ∧ YT K many ws v H ∧ YOk many ws ∧ Pure T (IT K (ws.map (·.sd))) H Q
/-- a tuple of what stands third in each wall -/
theorem ev_sds {σ : L2.St} {H : Hp} {tl te : TE} {ws : List Wall} {j : Nat} {vs : List Nat} (h : Ev T tl σ H (TT' K (WV K) ws)) (hl : ws.length ≤ 40000) (hw : ∀ x, wipe ((wipe σ vs).set j (some x)) vs = wipe σ vs) (hj : ∀ x, ((wipe σ vs).set j (some x))[j]? = some (some x)) :
    Ev T (tThen (tLc (iTup K tl) (gName j) tYes (tOp (rIxT K) (tVar j) (tC (.int 2))) vs) (kTup K)) σ H (IT K (ws.map (·.sd))) := by
  have lc := ev_lcT (β := Unit) (T := T) (K := K) (tl := tl) (te := tOp (rIxT K) (tVar j) (tC (.int 2))) (tt := tYes) (σ := σ) (j := j) (vs := vs) (Ps := WV K) (Pe := fun wl => eqI wl.sd) (ds := ws) (fun _ => true) h (fun d => stb_eqI) hl hw (fun _ _ _ _ _ _ => et_yes) (fun wl x H1 _ e hx _ =>
    ev_ixT (P := eqI) (i := 2) (fun _ => stb_eqI) ((ev_varP (WV.stb wl) (hj _) hx).imp fun v H2 _ h => IT.tt h) ev_c rfl)
  rw [filt_true] at lc
  exact (ev_tupleLL (K := K) (Pp := eqI) (ds := ws.map (·.sd)) (fun _ => stb_eqI) (lc.imp fun v H2 _ h => LL.map (g := fun w : Wall => w.sd) h)).imp fun v H2 _ h => h.it
theorem ok_sides_of_yard {f : Addr} {fd : FuncData} (F : Fun K "sides_of_yard" "sides_of_yard" s_sides_of_yard f fd) (G : Bn mg) (D_need_yard : Dfn P w K mg base 4 "need_yard" ["value"] (sp_need_yard T K)) : FnOk P w K mg base CX0 5 f fd ["yard"] (sp_sides_of_yard T K) := by
  refine F.ok sc_sides_of_yard (fun vs H Q E h => ?_) (fun cdv A outer s H vs Q E hr h => ?_)
  · obtain ⟨v, many, ws, rfl, _⟩ := h
    rfl
  · obtain ⟨v, many, ws, rfl, hv, ho, q⟩ := h
    refine ⟨_, (pss_cons (ps_expr (pe_dfn D_need_yard (hr.mono (by decide)) (pa_cons (pv 0) pa_nil)))
      (pss_one (ps_ret (k_tupleOf K (by rfl) G.tuple_ (pe_lc (own := [("wall", 1)]) rfl sc_sides_of_yard.nd (k_tup K (pe_ix (k_ix_tup K rfl) (pv 0) pe_int (fun _ _ => rfl)) rfl) (blkOk_by (own := [("wall", 1)]) (N := N_sides_of_yard) (by show blkC _ (defScope s_sides_of_yard) _ _ = true; decide +kernel)) (fun _ _ _ _ _ => (pg_name (i := 1) sc_sides_of_yard.nd rfl (by first | exact Or.inl rfl | exact Or.inr rfl))) (fun _ _ _ _ _ => pts_nil) (fun _ _ _ _ _ => (pe_ix (k_ix_tup K rfl) (pv 1) pe_int (fun _ _ => rfl)))) rfl)))), ?_⟩
    have y0 : ∀ {σ H1} , σ[0]? = some (some v) → Ex T H H1 → Ev T (tVar 0) σ H1 (YT K many ws) := fun h e => ev_varP YT.stb h (YT.stb.ex hv e)
    have h12 := ho.wl
    refine q_drop (ev_need_yard (y0 rfl (Ex.refl H)) ho) fun H1 e1 => ?_
    exact s_ret (ev_sds (te := tVar 0) (ev_yard1 (y0 rfl e1) ev_c) (by omega) (fun _ => rfl) (fun _ => rfl)) fun v H2 e2 hv => q _ _ (e1.trans e2) hv

def sp_turned_of (T : LTab) (K : PySem.W.Frag) : Sp := fun vs H Q _ => ∃ (v l : V) (many : Int) (ws : List Wall) (lot : List Int), vs = [v, l] ∧ YT K many ws v H ∧ IT K lot l H ∧ ws.length ≤ 12 ∧ Pure T (YT K many (turn lot ws)) H Q
theorem ok_turned_of {f : Addr} {fd : FuncData} (F : Fun K "turned_of" "turned_of" s_turned_of f fd) (G : Bn mg) (D_chosen : Dfn P w K mg base 1 "chosen" ["yard", "sides"] (sp_chosen T K)) : FnOk P w K mg base CX0 2 f fd ["yard", "lot"] (sp_turned_of T K) := by
  refine F.ok sc_turned_of (fun vs H Q E h => ?_) (fun cdv A outer s H vs Q E hr h => ?_)
  · obtain ⟨v, l, many, ws, lot, rfl, _⟩ := h
    rfl
  · obtain ⟨v, l, many, ws, lot, rfl, hv, hl, h12, q⟩ := h
    refine ⟨_, (pss_cons (ps_set (i := 2) sc_turned_of.nd rfl (by first | exact Or.inl rfl | exact Or.inr rfl) (pe_lst pa_nil))
      (pss_cons (ps_for PassesOwn.never rfl (k_enum K (by rfl) G.enumerate_ (pa_cons (pe_ix (k_ix_tup K rfl) (pv 0) pe_int (fun _ _ => rfl)) pa_nil) rfl) (pg_two (K := K) (i := 3) (j := 4) rfl sc_turned_of.nd rfl rfl (by first | exact Or.inl rfl | exact Or.inr rfl) (by first | exact Or.inl rfl | exact Or.inr rfl) (by first | exact Or.inl rfl | exact Or.inr rfl) (by first | exact Or.inl rfl | exact Or.inr rfl)) (pss_one (ps_expr (pe_bm PySem.F.plainAttrs_list PySem.F.slot_list_append PySem.F.type_list_append mt_append (pv 2) (pa_cons (pe_ifExp (PW.pt (pw_and (pt_cmpR (k_in K rfl) (pv 3) (pv 1) rfl) (pw_and1 (pt_cmpR op_lt (pe_ix (k_ix_tup K rfl) (pv 4) pe_int (fun _ _ => rfl)) pe_int (nomark _))))) (pe_op op_sub pe_int (pe_ix (k_ix_tup K rfl) (pv 4) pe_int (fun _ _ => rfl))) (pe_ix (k_ix_tup K rfl) (pv 4) pe_int (fun _ _ => rfl))) pa_nil)))))
      (pss_one (ps_ret (pe_dfn D_chosen (hr.mono (by decide)) (pa_cons (pv 0) (pa_cons (pv 2) pa_nil))))))), ?_⟩
    have y0 : ∀ {σ H1} , σ[0]? = some (some v) → Ex T H H1 → Ev T (tVar 0) σ H1 (YT K many ws) := fun h e => ev_varP YT.stb h (YT.stb.ex hv e)
    have l0 : ∀ {σ H1} , σ[1]? = some (some l) → Ex T H H1 → Ev T (tVar 1) σ H1 (IT K lot) := fun h e => ev_varP IT.stb h (IT.stb.ex hl e)
    refine ⟨Nat.zero_le _, fun p np => ?_⟩
    have A0 : At T H p [] (upd H p (.lst [])) := ⟨Ex.new np, np, upd_same⟩
    refine (ev_yard1 (K := K) (y0 (σ := [some v, some l, some (.ref p), none, none]) rfl A0.1) ev_c).go fun x H1 e1 ⟨a, xs, ex, hs, hp⟩ => ?_
    subst ex
    have A1 := A0.ex e1
    have hlen := Paired.length hp
    refine ⟨a, xs, rfl, hs, for_enumT (K := K) (fun i σ H' => ∃ x3 x4, σ = [some v, some l, some (.ref p), x3, x4] ∧ At T H p (((turn lot ws).take i).map (·.sd)) H' ∧ Tk H1 H') ⟨_, _, rfl, A1, Tk.refl _⟩ (fun i σ H' _ ⟨_, _, _, _, k⟩ => k.sqt hs) ?_ ?_⟩
    · rintro i x t σ H' hi ⟨x3, x4, rfl, A2, k2⟩ ht
      obtain ⟨wl, hw, px⟩ := paired_get hp hi
      have il := (List.getElem?_eq_some_iff.mp hw).1
      have e' : Ex T H' (upd H' t (.tup [.int (i : Nat), x])) := Ex.new ht
      have A3 := A2.ex e'
      have k3 := k2.trans e'.tk
      refine ⟨t, _, rfl, .of upd_same, rfl, _, _, rfl, _, _, rfl, rfl, ?_⟩
      have px3 : WV K wl x (upd H' t (.tup [.int (i : Nat), x])) := WV.stb wl _ _ _ px k3
      have w4 : ∀ {H4}, Ex T (upd H' t (.tup [.int (i : Nat), x])) H4 → Ev T (tOp (rIxT K) (tVar 4) (tC (.int 2))) [some v, some l, some (.ref p), some (.int (i : Nat)), some x] H4 (fun v _ => v = .int wl.sd) := fun e =>
        ev_ixT (P := eqI) (i := 2) (fun _ => stb_eqI) ((ev_varP (WV.stb wl) rfl ((WV.stb wl).ex px3 e)).imp fun v H2 _ h => IT.tt h) ev_c rfl
      have c1 := et_test (ev_inT (T := T) (K := K) (neg := false) (i := ((i : Nat) : Int)) (ns := lot) (ev_var (i := 3) (H := upd H' t (.tup [.int (i : Nat), x])) (σ := [some v, some l, some (.ref p), some (.int (i : Nat)), some x]) rfl) (l0 rfl A3.1))
      have c2 := et_test (ev_I0 (g := fun i j => .bl (decide (i < j))) (w4 (Ex.refl _)) (ev_c (v := .int 2)))
      have ev1 := ev_if (et_and c1 fun _ => c2) (P := fun v _ => v = .int (turnAt lot i wl).sd) (ta := tOp (rI0 fun i j => .int (i - j)) (tC (.int 1)) (tOp (rIxT K) (tVar 4) (tC (.int 2)))) (tb := tOp (rIxT K) (tVar 4) (tC (.int 2)))
        (fun hb => (ev_I0 ev_c (w4 (Ex.refl _))).imp fun v _ _ hv => hv.trans (congrArg V.int (by
          simp at hb
          unfold turnAt
          rw [if_pos hb]
          rfl)))
        (fun hb => (w4 (Ex.refl _)).imp fun v _ _ hv => hv.trans (congrArg V.int (by
          simp at hb
          unfold turnAt
          rw [if_neg (fun z => absurd z.2 (by have := hb z.1; omega))])))
      refine s_app (T := T) (i := 2) rfl A3.2.2 (by rw [List.length_map, List.length_map, List.length_take]; omega) ev1 fun v9 H8 e8 hv9 => ?_
      subst hv9
      have A8 := A3.ex e8
      refine ⟨_, _, rfl, ?_, (k3.trans e8.tk).trans (Tk.upd A8.2.2)⟩
      have tg : (turn lot ws)[i]? = some (turnAt lot i wl) := by rw [turn_get, hw]; rfl
      have ad := A8.add (n := (turnAt lot i wl).sd)
      rw [List.take_add_one, tg, List.map_append]
      exact ad
    · rintro σ H' ⟨x3, x4, rfl, A2, k2⟩
      rw [hlen, ← turn_len (lot := lot), List.take_length] at A2
      refine s_ret (ev_chosen (y0 rfl A2.1) ((ev_varL (T := T) (i := 2) (fun _ => stb_eqI) rfl A2.ll).imp fun _ _ _ h => .inr h) h12) fun v3 H3 e3 hv3 => ?_
      rw [resides_turn] at hv3
      exact q _ _ (A2.1.trans e3) hv3
theorem ev_turned_of {σ : L2.St} {H : Hp} {ta tb : TE} {many : Int} {ws : List Wall} {lot : List Int} (h : Ev T ta σ H (YT K many ws)) (h2 : Ev T tb σ H (IT K lot)) (hl : ws.length ≤ 12) : Ev T (tDfn (sp_turned_of T K) (tCons ta (tCons tb tNil))) σ H (YT K many (turn lot ws)) :=
  ev_dfn (ea_two h YT.stb h2) fun vs H1 e ⟨v, v', ev, p, p'⟩ Q q => ⟨v, v', many, ws, lot, ev, p, p', hl, q⟩

def sp_turned (T : LTab) (K : PySem.W.Frag) : Sp := fun vs H Q _ => ∃ (v l : V) (many : Int) (ws : List Wall) (lot : List Int), vs = [v, l] ∧ YT K many ws v H ∧ YOk many ws ∧ IT K lot l H ∧ IsLot ws.length lot ∧ lot.length ≤ 12 ∧ Pure T (YT K many (turn lot ws)) H Q
theorem ok_turned {f : Addr} {fd : FuncData} (F : Fun K "turned" "turned" s_turned f fd) (D_need_yard : Dfn P w K mg base 4 "need_yard" ["value"] (sp_need_yard T K)) (D_need_lot : Dfn P w K mg base 3 "need_lot" ["yard", "value"] (sp_need_lot T K)) (D_turned_of : Dfn P w K mg base 2 "turned_of" ["yard", "lot"] (sp_turned_of T K)) :
    FnOk P w K mg base CX0 5 f fd ["yard", "lot"] (sp_turned T K) := by
  refine F.ok sc_turned (fun vs H Q E h => ?_) (fun cdv A outer s H vs Q E hr h => ?_)
  · obtain ⟨v, l, many, ws, lot, rfl, _⟩ := h
    rfl
  · obtain ⟨v, l, many, ws, lot, rfl, hv, ho, hl, hlo, hll, q⟩ := h
    refine ⟨_, (pss_cons (ps_expr (pe_dfn D_need_yard (hr.mono (by decide)) (pa_cons (pv 0) pa_nil)))
      (pss_cons (ps_expr (pe_dfn D_need_lot (hr.mono (by decide)) (pa_cons (pv 0) (pa_cons (pv 1) pa_nil))))
      (pss_one (ps_ret (pe_dfn D_turned_of (hr.mono (by decide)) (pa_cons (pv 0) (pa_cons (pv 1) pa_nil))))))), ?_⟩
    have y0 : ∀ {σ H1} , σ[0]? = some (some v) → Ex T H H1 → Ev T (tVar 0) σ H1 (YT K many ws) := fun h e => ev_varP YT.stb h (YT.stb.ex hv e)
    have l0 : ∀ {σ H1} , σ[1]? = some (some l) → Ex T H H1 → Ev T (tVar 1) σ H1 (IT K lot) := fun h e => ev_varP IT.stb h (IT.stb.ex hl e)
    refine q_drop (ev_need_yard (y0 rfl (Ex.refl H)) ho) fun H1 e1 => ?_
    refine q_drop (ev_need_lot (y0 rfl e1) (l0 rfl e1) hlo hll) fun H2 e2 => ?_
    exact s_ret (ev_turned_of (y0 rfl (e1.trans e2)) (l0 rfl (e1.trans e2)) ho.wl) fun v H3 e3 hv => q _ _ ((e1.trans e2).trans e3) hv
end
end WI
set_option maxRecDepth 100000
/-! busy, ring_of. -/
namespace WI
open PySem PySem.Spec L2 LamX RZ StX
section
variable {T : LTab} {P : Program} {w : World} {K : PySem.W.Frag} {mg : Str → Option Value} {base : Heap}
theorem flat2_len (l : List Wall) : (l.flatMap fun w => [w.lo, w.hi]).length = 2 * l.length := by
  induction l with
  | nil => rfl
  | cons w l ih => rw [List.flatMap_cons, List.length_append, ih]; simp; omega
theorem ev_sortSet {σ : L2.St} {H : Hp} {ta : TE} {ns : List Int} (h : Ev T ta σ H (LL eqI ns)) (hl : ns.length < 64) : Ev T (tSortSet K ta) σ H (fun v H' => ∃ ms : List Int, LL eqI ms v H' ∧ ms.Pairwise (· < ·) ∧ ∀ k, k ∈ ms ↔ k ∈ ns) := fun H1 e Q q =>
  h H1 e _ fun v H2 e2 ⟨a, vs, ev, hs, hp⟩ => by
    have : vs = ns.map V.int := paired_map hp
    subst this
    exact ⟨a, ns, ev, .of hs, hl, fun ms p up hm np => q _ _ (e2.trans (Ex.new np)) ⟨ms, ⟨p, _, rfl, upd_same, paired_of_map (F := fun v d => eqI d v _) (f := V.int) (fun _ => rfl) ms⟩, up, hm⟩⟩
def sp_busy (T : LTab) (K : PySem.W.Frag) : Sp := fun vs H Q _ => ∃ (v : V) (many : Int) (ws : List Wall), vs = [v] ∧ YT K many ws v H ∧ ws.length ≤ 12 ∧ Pure T (fun v H' => ∃ B : List Int, LL eqI B v H' ∧ B.Nodup ∧ B.length ≤ 25 ∧ ∀ r, r ∈ B ↔ Busy ws r) H Q
theorem ok_busy {f : Addr} {fd : FuncData} (F : Fun K "busy" "busy" s_busy f fd) (G : Bn mg) : FnOk P w K mg base CX0 1 f fd ["yard"] (sp_busy T K) := by
  refine F.ok sc_busy (fun vs H Q E h => ?_) (fun cdv A outer s H vs Q E hr h => ?_)
  · obtain ⟨v, many, ws, rfl, _⟩ := h
    rfl
  · obtain ⟨v, many, ws, rfl, hv, h12, q⟩ := h
    refine ⟨_, (pss_cons (ps_set (i := 1) sc_busy.nd rfl (by first | exact Or.inl rfl | exact Or.inr rfl) (pe_lst (pa_cons pe_int pa_nil)))
      (pss_cons (ps_for PassesOwn.never rfl (k_tup K (pe_ix (k_ix_tup K rfl) (pv 0) pe_int (fun _ _ => rfl)) rfl) (pg_name (i := 2) sc_busy.nd rfl (by first | exact Or.inl rfl | exact Or.inr rfl)) (pss_one (ps_expr (pe_bm PySem.F.plainAttrs_list PySem.F.slot_list_extend PySem.F.type_list_extend (k_extT K rfl) (pv 1) (pa_cons (pe_slice (k_sl_tup K rfl) (pv 2) po_none (po_some pe_int)) pa_nil)))))
      (pss_one (ps_ret (pe_sortedSet rfl (by rfl) G.sorted_ (by rfl) G.set_ (pv 1)))))), ?_⟩
    have y0 : ∀ {σ H1} , σ[0]? = some (some v) → Ex T H H1 → Ev T (tVar 0) σ H1 (YT K many ws) := fun h e => ev_varP YT.stb h (YT.stb.ex hv e)
    refine ⟨by show 1 ≤ sizeLine; decide, fun p np => ?_⟩
    have A0 : At T H p [0] (upd H p (.lst [.int 0])) := ⟨Ex.new np, np, upd_same⟩
    refine (ev_yard1 (K := K) (y0 (σ := [some v, some (.ref p), none]) rfl A0.1) ev_c).go fun x H1 e1 ⟨a, xs, ex, hs, hp⟩ => ?_
    subst ex
    have A1 := A0.ex e1
    have hlen := Paired.length hp
    refine ⟨a, rfl, ⟨_, hs⟩, for_tup (K := K) (xs := xs) (fun i σ H' => ∃ x2, σ = [some v, some (.ref p), x2] ∧ At T H p (0 :: (ws.take i).flatMap fun w => [w.lo, w.hi]) H' ∧ Tk H1 H') ⟨_, rfl, A1, Tk.refl _⟩ (fun i σ H' _ ⟨_, _, _, k⟩ => k.sqt hs) ?_ ?_⟩
    · rintro i x σ H' hi ⟨x2, rfl, A2, k2⟩
      obtain ⟨wl, hw, px⟩ := paired_get hp hi
      have il := (List.getElem?_eq_some_iff.mp hw).1
      show tDrop _ _ [some v, some (.ref p), some x] H'
      refine ⟨_, rfl, .inl ⟨rfl, _, SqL.of A2.2.2⟩, ?_⟩
      refine (ev_sl (T := T) (K := K) (ns := wl.l) (ms := [wl.lo, wl.hi]) (ev_varP (i := 2) (σ := [some v, some (.ref p), some x]) (WV.stb wl) rfl (WV.stb wl _ _ _ px k2)) eo_no (eo_part ev_c) rfl).go fun y H2 e2 ⟨b, eb, hb⟩ => ?_
      have A3 := A2.ex e2
      have hln : (0 :: (ws.take i).flatMap fun w => [w.lo, w.hi]).length ≤ 25 := by
        rw [List.length_cons, flat2_len, List.length_take]
        omega
      refine ⟨p, b, _, _, rfl, by rw [eb], A3.2.2, hb, by rw [List.length_map, List.length_map]; exact Nat.le_trans (show _ + 2 ≤ 27 by omega) (by decide), ?_⟩
      refine ⟨_, rfl, ?_, (k2.trans e2.tk).trans (Tk.upd A3.2.2)⟩
      refine ⟨A3.1.mut A3.2.1 A3.2.2, A3.2.1, ?_⟩
      rw [upd_same, ← List.map_append, List.take_add_one, hw, List.flatMap_append]
      simp
    · rintro σ H' ⟨x2, rfl, A2, k2⟩
      rw [hlen, List.take_length] at A2
      have hln := flat2_len ws
      refine s_ret (ev_sortSet (ev_varL (T := T) (i := 1) (fun _ => stb_eqI) rfl A2.ll) (by rw [List.length_cons]; omega)) fun v3 H3 e3 ⟨B, hB, up, hm⟩ => ?_
      have nd : B.Nodup := nodup_of_up up
      refine q _ _ (A2.1.trans e3) ⟨B, hB, nd, ?_, fun r => ?_⟩
      · have := length_le_of_subset nd fun x hx => (hm x).mp hx
        rw [List.length_cons] at this
        omega
      · rw [hm]
        unfold Busy
        rw [List.mem_cons, List.mem_flatMap]
        simp
theorem ev_busy {σ : L2.St} {H : Hp} {ta : TE} {many : Int} {ws : List Wall} (h : Ev T ta σ H (YT K many ws)) (hl : ws.length ≤ 12) : Ev T (tDfn (sp_busy T K) (tCons ta tNil)) σ H (fun v H' => ∃ B : List Int, LL eqI B v H' ∧ B.Nodup ∧ B.length ≤ 25 ∧ ∀ r, r ∈ B ↔ Busy ws r) :=
  ev_dfn (ea_one h) fun vs H1 e ⟨v, ev, p⟩ Q q => ⟨v, many, ws, ev, p, hl, q⟩
end
end WI
set_option maxRecDepth 100000
/-! ring_of. -/
namespace WI
open PySem PySem.Spec L2 LamX RZ StX
/-! ### a path of least arcs -/
theorem itf_succ (f : Int → Int) : ∀ (n : Nat) (r : Int), itf f (n + 1) r = f (itf f n r)
  | 0, _ => rfl
  | n + 1, r => itf_succ f n (f r)
def pathOf (f : Int → Int) (room : Int) (k : Nat) : List Int := (List.range k).map fun i => itf f i room
theorem path_len (f : Int → Int) (room : Int) (k : Nat) : (pathOf f room k).length = k := by simp [pathOf]
theorem path_get {f : Int → Int} {room : Int} {k i : Nat} (h : i < k) : (pathOf f room k)[i]? = some (itf f i room) := by
  unfold pathOf
  rw [List.getElem?_map, List.getElem?_range h]
  rfl
theorem path_succ (f : Int → Int) (room : Int) (k : Nat) : pathOf f room (k + 1) = pathOf f room k ++ [itf f k room] := by
  unfold pathOf
  rw [List.range_succ, List.map_append]
  rfl
theorem cut_drop (xs : List V) (j : Nat) (h : j ≤ xs.length) : cutV xs (some (j : Int)) none = xs.drop j := by
  unfold cutV
  rw [HT.sIx_nat, HT.sIx_none, Nat.min_eq_left h]
  apply List.take_of_length_le
  rw [List.length_drop]
  exact Nat.le_refl _
/-- what ring_of tells of the rooms rs and the map f towards the root -/
def RingTold (rs : List Int) (f : Int → Int) (root : Int) (C : List Int) : Prop :=
  (C = [] ∧ ∀ r ∈ rs, ∃ m, m ≤ rs.length ∧ itf f m r = root) ∨
  (C ≠ [] ∧ C.Nodup ∧ (∀ x ∈ C, x ∈ rs) ∧ ∀ (j : Nat) (x : Int), C[j]? = some x → C[if j + 1 = C.length then 0 else j + 1]? = some (f x))
theorem ring_drop {f : Int → Int} {room : Int} {k j : Nat} (nd : (pathOf f room k).Nodup) (hj : j < k) (e : itf f j room = itf f k room) :
    ∀ (i : Nat) (x : Int), ((pathOf f room k).drop j)[i]? = some x → ((pathOf f room k).drop j)[if i + 1 = ((pathOf f room k).drop j).length then 0 else i + 1]? = some (f x) := by
  intro i x hx
  rw [List.getElem?_drop] at hx
  have hi : j + i < k := by
    have := (List.getElem?_eq_some_iff.mp hx).1
    rwa [path_len] at this
  rw [path_get hi] at hx
  cases hx
  rw [List.length_drop, path_len, List.getElem?_drop, ← itf_succ f]
  split
  · rename_i h
    rw [Nat.add_zero, path_get hj, e]
    congr 2
    omega
  · rename_i h
    rw [path_get (by omega)]
    rfl
section
variable {T : LTab} {P : Program} {w : World} {K : PySem.W.Frag} {mg : Str → Option Value} {base : Heap}
def Arc.l (e : Arc) : List Int := [e.a, e.b, e.c]
def AV (K : PySem.W.Frag) (e : Arc) : V → Hp → Prop := IT K e.l
theorem AV.stb {K : PySem.W.Frag} (e : Arc) : Stb (AV K e) := IT.stb
/-- the pairs of the dict of the least arcs -/
def KVs (K : PySem.W.Frag) (into : Int → Arc) (rs : List Int) (kvs : List (Key × V)) (H : Hp) : Prop := Paired (fun (kv : Key × V) r => kv.1 = Sum.inl r ∧ AV K (into r) kv.2 H) kvs rs
theorem KVs.tk {into : Int → Arc} {rs : List Int} {kvs : List (Key × V)} {H H' : Hp} (h : KVs K into rs kvs H) (k : Tk H H') : KVs K into rs kvs H' := paired_mono (fun kv r q => ⟨q.1, AV.stb _ _ _ _ q.2 k⟩) h
theorem kvs_some {into : Int → Arc} : ∀ {rs : List Int} {kvs : List (Key × V)} {H : Hp} {r : Int}, KVs K into rs kvs H → r ∈ rs → ∃ v, valV kvs (Sum.inl r) = some v ∧ AV K (into r) v H
  | _, _, _, _, .nil, h => by cases h
  | r0 :: rs, kv :: kvs, H, r, .cons p t, h => by
    by_cases e : r0 = r
    · subst e
      exact ⟨kv.2, valV_pos p.1, p.2⟩
    · have hr : r ∈ rs := by
        cases h with
        | head => exact absurd rfl e
        | tail _ h => exact h
      obtain ⟨v, h1, h2⟩ := kvs_some (show KVs _ into rs kvs H from t) hr
      refine ⟨v, ?_, h2⟩
      rw [valV_neg (fun z => e (Sum.inl.inj (p.1.symm.trans z)))]
      exact h1
theorem kvs_none {into : Int → Arc} : ∀ {rs : List Int} {kvs : List (Key × V)} {H : Hp} {r : Int}, KVs K into rs kvs H → r ∉ rs → valV kvs (Sum.inl r) = none
  | _, _, _, _, .nil, _ => rfl
  | r0 :: rs, kv :: kvs, H, r, .cons p t, h => by
    rw [valV_neg (fun z => h (by rw [Sum.inl.inj (p.1.symm.trans z)]; exact List.mem_cons_self ..))]
    exact kvs_none (show KVs _ into rs kvs H from t) fun q => h (List.mem_cons_of_mem _ q)
/-- a loop over a locked dict's keys -/
theorem for_keysK {d : Addr} {o : Obj} {kvs : List (Key × V)} {g : TG} {tb : TS} {D : Ends} {σ : L2.St} {H : Hp} (Pv : Nat → L2.St → Hp → Prop) (h0 : Pv 0 σ H) (hl : ∀ i σ H, i ≤ kvs.length → Pv i σ H → H d = some (.frz o (.dK kvs)))
    (hs : ∀ i k v σ H, kvs[i]? = some (k, v) → Pv i σ H → g (kV k) σ H fun σ2 H2 => tb { D with nx := Pv (i + 1), ct := Pv (i + 1), bk := D.nx } σ2 H2) (hd : ∀ σ H, Pv kvs.length σ H → D.nx σ H) :
    ∃ W : Nat → Nat → L2.St → Hp → Prop, (∃ m, W 0 m σ H) ∧ ∀ i m σ H, W i m σ H →
      ((Itk d o kvs).stop i H ∧ D.nx σ H) ∨ ((Itk d o kvs).go i H ∧ ∃ N : L2.St → Hp → Prop, (∀ σ' H', N σ' H' → ∃ m', m' < m ∧ W (i + 1) m' σ' H') ∧ ∀ x H', (Itk d o kvs).yld i H x H' → g x σ H' fun σ2 H2 => tb { D with nx := N, ct := N, bk := D.nx } σ2 H2) := by
  refine ⟨fun i m σ H => m = kvs.length - i ∧ i ≤ kvs.length ∧ Pv i σ H, ⟨_, rfl, Nat.zero_le _, h0⟩, ?_⟩
  rintro i m σ H ⟨rfl, hi, p⟩
  have q := hl i σ H hi p
  by_cases lt : i < kvs.length
  · refine .inr ⟨⟨q, lt⟩, Pv (i + 1), fun σ' H' p' => ⟨kvs.length - (i + 1), by omega, rfl, lt, p'⟩, fun x H' y => ?_⟩
    obtain ⟨rfl, k, v, h1, rfl⟩ := y
    exact hs i k v σ _ h1 p
  · have e : i = kvs.length := by omega
    subst e
    exact .inl ⟨⟨q, Nat.le_refl _⟩, hd σ H p⟩
/-- behind a lock: the dict stands as before -/
theorem unlock_ex {H H' : Hp} {d : Addr} {od : Obj} {kvs : List (Key × V)} (hd : H d = some (.dK kvs)) (e : Ex T (upd H d (.frz od (.dK kvs))) H') : Ex T H (upd H' d (.dK kvs)) := by
  have hf : H' d = some (.frz od (.dK kvs)) := e.keep d _ upd_same (fun _ z => by cases z)
  refine ⟨fun b o hb n => ?_, fun b hb => ?_, fun t q hq => ?_⟩
  · by_cases z : b = d
    · subst z
      rw [hd] at hb
      cases hb
      exact upd_same
    · rw [upd_ne z]
      exact e.keep b o (by rw [upd_ne z]; exact hb) n
  · by_cases z : b = d
    · rw [z, upd_same] at hb
      cases hb
    · rw [upd_ne z] at hb
      have := e.back b hb
      rwa [upd_ne z] at this
  · have t2 := e.tabs (tabs_updD hd t)
    obtain ⟨ps, h1, h2, h3⟩ := t2 q hq
    refine ⟨ps, by rw [upd_ne (fun z => by rw [z, hf] at h1; cases h1)]; exact h1, h2, fun pos cv hc => ?_⟩
    obtain ⟨c, e1, e2⟩ := h3 pos cv hc
    refine ⟨c, e1, ?_⟩
    rw [upd_ne (fun z => by
      rw [z, hf] at e2
      unfold CodeO at e2
      cases e2)]
    exact e2
theorem lock_tk {H : Hp} {d : Addr} {od : Obj} {kvs : List (Key × V)} (hd : H d = some (.dK kvs)) : Tk H (upd H d (.frz od (.dK kvs))) := Tk.updD hd
def sp_ring_of (T : LTab) (K : PySem.W.Frag) : Sp := fun vs H Q _ => ∃ (d : Addr) (root : Int) (kvs : List (Key × V)) (rs : List Int) (into : Int → Arc), vs = [.ref d, .int root] ∧ H d = some (.dK kvs) ∧ KVs K into rs kvs H ∧ rs.Nodup ∧ root ∉ rs ∧ rs.length ≤ 1000 ∧ (∀ r ∈ rs, (into r).a ∈ rs ∨ (into r).a = root) ∧
  Pure T (fun v H' => ∃ C : List Int, LL eqI C v H' ∧ RingTold rs (fun r => (into r).a) root C) H Q
theorem ok_ring_of {f : Addr} {fd : FuncData} (F : Fun K "ring_of" "ring_of" s_ring_of f fd) (G : Bn mg) : FnOk P w K mg base CX0 1 f fd ["into", "root"] (sp_ring_of T K) := by
  refine F.ok sc_ring_of (fun vs H Q E h => ?_) (fun cdv A outer s H vs Q E hr h => ?_)
  · obtain ⟨d, root, kvs, rs, into, rfl, _⟩ := h
    rfl
  · obtain ⟨d, root, kvs, rs, into, rfl, hd, hk, nd, nr, h1000, ht, q⟩ := h
    have hu := hu_of hr
    refine ⟨_, (pss_cons (ps_lock (ps_for PassesOwn.never rfl (pi_keys (pv 0)) (pg_name (i := 2) sc_ring_of.nd rfl (by first | exact Or.inl rfl | exact Or.inr rfl)) (pss_cons (ps_par (i := 3) (j := 4) rfl sc_ring_of.nd rfl rfl (by decide) rfl rfl (pa_cons (pe_lst pa_nil) (pa_cons (pv 2) pa_nil)) (by rfl))
      (pss_cons (ps_while PassesOwn.never (PW.pt (pw_and (pt_cmpR op_ne (pv 4) (pv 1) (nomark _)) (pw_and1 (pt_cmpR (k_notIn K rfl) (pv 4) (pv 3) rfl)))) (pss_cons (ps_expr (pe_bm PySem.F.plainAttrs_list PySem.F.slot_list_append PySem.F.type_list_append mt_append (pv 3) (pa_cons (pv 4) pa_nil)))
      (pss_one (ps_set (i := 4) sc_ring_of.nd rfl (by first | exact Or.inl rfl | exact Or.inr rfl) (pe_ix (k_ix_tup K rfl) (pe_dget hu (pv 0) (pv 4) (fun _ _ => rfl)) pe_int (fun _ _ => rfl))))))
      (pss_one (ps_if (pt_cmpR op_ne (pv 4) (pv 1) (nomark _)) (pss_one (ps_ret (pe_slice (k_sl_list K rfl) (pv 3) (po_some (pe_bm PySem.F.plainAttrs_list PySem.F.slot_list_index PySem.F.type_list_index (k_index K rfl) (pv 3) (pa_cons (pv 4) pa_nil))) po_none))) pss_nil))))))
      (pss_one (ps_ret (pe_lst pa_nil)))), ?_⟩
    have hlen := Paired.length hk
    refine ⟨d, _, hd, trivial, fun od => ?_⟩
    have hk1 := hk.tk (lock_tk (od := od) hd)
    have hd1 : upd H d (.frz od (.dK kvs)) d = some (.frz od (.dK kvs)) := upd_same
    have fin := fun H' => unlock_ex (T := T) (H' := H') (od := od) hd
    generalize upd H d (.frz od (.dK kvs)) = HL at hk1 hd1 fin ⊢
    have hdL : ∀ {H'}, Ex T HL H' → H' d = some (.frz od (.dK kvs)) := fun e => e.keep d _ hd1 (fun _ z => by cases z)
    -- into[r][0]
    have step : ∀ {σ H'} {r : Int}, σ[0]? = some (some (.ref d)) → σ[4]? = some (some (.int r)) → r ∈ rs → Ex T HL H' → Ev T (tOp (rIxT K) (tDGet (tVar 0) (tVar 4)) (tC (.int 0))) σ H' (fun v _ => v = .int (into r).a) := by
      intro σ H' r h0 h4 hr e
      have hget : Ev T (tDGet (tVar 0) (tVar 4)) σ H' (AV K (into r)) := fun H1 e1 Q q => by
        obtain ⟨x, hx, ax⟩ := kvs_some hk1 hr
        refine ⟨_, h0, _, h4, d, x, rfl, .inl ⟨kvs, Sum.inl r, .inr ⟨od, hdL (e.trans e1)⟩, rfl, hx.symm⟩, q x H1 (Ex.refl _) ((AV.stb _).ex ax (e.trans e1))⟩
      exact ev_ixT (P := eqI) (i := 0) (fun _ => stb_eqI) (hget.imp fun v H2 _ h => IT.tt h) ev_c rfl
    refine ⟨_, rfl, d, od, rfl, .inl ⟨kvs, hd1, for_keysK (fun i σ H' => ∃ x2 x3 x4, σ = [some (.ref d), some (.int root), x2, x3, x4] ∧ Ex T HL H' ∧ ∀ r ∈ rs.take i, ∃ m, m ≤ rs.length ∧ itf (fun r => (into r).a) m r = root) ⟨_, _, _, rfl, Ex.refl _, by simp⟩ (fun i σ H' _ ⟨_, _, _, _, e, _⟩ => hdL e) ?_ ?_⟩⟩
    · rintro i k v σ H' hi ⟨x2, x3, x4, rfl, e, hprev⟩
      obtain ⟨room, hroom, hke, hav⟩ := paired_get hk1 hi
      dsimp only at hke
      subst hke
      have mroom := List.mem_of_getElem? hroom
      -- path, here = [], room
      refine ⟨Nat.zero_le _, fun p np => ⟨_, rfl, _, _, rfl, ?_⟩⟩
      have A0 : At T HL p [] (upd H' p (.lst [])) := ⟨e.trans (Ex.new np), e.back _ np, upd_same⟩
      refine ⟨fun m σ H' => ∃ n, σ = [some (.ref d), some (.int root), some (.int room), some (.ref p), some (.int (itf (fun r => (into r).a) n room))] ∧ At T HL p (pathOf (fun r => (into r).a) room n) H' ∧ (pathOf (fun r => (into r).a) room n).Nodup ∧ (∀ x ∈ pathOf (fun r => (into r).a) room n, x ∈ rs) ∧ (itf (fun r => (into r).a) n room ∈ rs ∨ itf (fun r => (into r).a) n room = root) ∧ m + n = rs.length + 1,
        ⟨rs.length + 1, 0, rfl, A0, List.nodup_nil, (fun x hx => by cases hx), .inl mroom, rfl⟩, ?_⟩
      rintro m σ H1 ⟨n, rfl, A1, pn, ps, ph, hm⟩
      have c1 := et_test (T := T) (H := H1) (σ := [some (.ref d), some (.int root), some (.int room), some (.ref p), some (.int (itf (fun r => (into r).a) n room))]) (ev_neS (x := .int (itf (fun r => (into r).a) n room)) (y := .int root) rfl (ev_var (i := 4) rfl) (ev_var (i := 1) rfl))
      have c2 := et_test (ev_inL (K := K) (neg := true) (i := itf (fun r => (into r).a) n room) (ev_var (T := T) (H := H1) (i := 4) (σ := [some (.ref d), some (.int root), some (.int room), some (.ref p), some (.int (itf (fun r => (into r).a) n room))]) rfl) (ev_varL (i := 3) (fun _ => stb_eqI) rfl A1.ll))
      have ln : n ≤ rs.length := by
        have := length_le_of_subset pn ps
        rwa [path_len] at this
      refine (et_and c1 fun _ => c2).go fun H2 e2 => ?_
      have A2 := A1.ex e2
      refine ite2 (fun hb => ?_) (fun hb => ?_)
      · simp at hb
        have hin : itf (fun r => (into r).a) n room ∈ rs := ph.resolve_right hb.1
        refine ⟨_, fun σ' H' h => ⟨m - 1, ?_, h⟩, ?_⟩
        · have hm' : n + 1 ≤ rs.length := by
            have := length_le_of_subset (l := pathOf (fun r => (into r).a) room (n + 1)) (m := rs) (by
              rw [path_succ, List.nodup_append]
              exact ⟨pn, by simp, fun a ha b hb' e => hb.2 (by rw [List.mem_singleton.mp hb'] at e; rw [← e]; exact ha)⟩) (fun x hx => by
              rw [path_succ] at hx
              rcases List.mem_append.mp hx with hx | hx
              · exact ps x hx
              · rw [List.mem_singleton.mp hx]; exact hin)
            rwa [path_len] at this
          omega
        · refine q_app (T := T) (i := 3) rfl A2.2.2 (by rw [List.length_map, path_len]; omega) (ev_var (i := 4) rfl) fun v9 H3 e3 hv9 => ?_
          subst hv9
          have A3 := (A2.ex e3).add (n := itf (fun r => (into r).a) n room)
          refine s_asg (step rfl rfl hin A3.1) fun v10 H4 e4 hv10 => ?_
          subst hv10
          rw [← path_succ] at A3
          refine ⟨n + 1, ?_, A3.ex e4, ?_, ?_, ?_, by omega⟩
          · rw [itf_succ]; rfl
          · rw [path_succ, List.nodup_append]
            exact ⟨pn, by simp, fun a ha b hb' e => hb.2 (by rw [List.mem_singleton.mp hb'] at e; rw [← e]; exact ha)⟩
          · intro x hx
            rw [path_succ] at hx
            rcases List.mem_append.mp hx with hx | hx
            · exact ps x hx
            · rw [List.mem_singleton.mp hx]; exact hin
          · rw [itf_succ]; exact ht _ hin
      · simp at hb
        refine s_if (et_test (T := T) (H := H2) (σ := [some (.ref d), some (.int root), some (.int room), some (.ref p), some (.int (itf (fun r => (into r).a) n room))]) (ev_neS (x := .int (itf (fun r => (into r).a) n room)) (y := .int root) rfl (ev_var (i := 4) rfl) (ev_var (i := 1) rfl))) (fun hne H3 e3 => ?_) (fun hne H3 e3 => ?_)
        · -- a ring
          simp at hne
          have hin := hb hne
          have A3 := A2.ex e3
          obtain ⟨j, hj⟩ := List.mem_iff_getElem?.mp hin
          have jl := (List.getElem?_eq_some_iff.mp hj).1
          rw [path_len] at jl
          have hje : itf (fun r => (into r).a) j room = itf (fun r => (into r).a) n room := by
            rw [path_get jl] at hj
            exact Option.some.inj hj
          refine ⟨_, rfl, _, rfl, .inl ⟨rfl, _, SqL.of A3.2.2⟩, _, rfl, p, _, _, j, .int (itf (fun r => (into r).a) n room), rfl, rfl, .of A3.2.2, rfl, flat_ints _, ?_, by simp [eqV], ?_, j, rfl, p, _, rfl, .of A3.2.2, fun p' np' => ?_⟩
          · rw [List.getElem?_map, hj]
            rfl
          · intro m z' hmj hz'
            rw [List.getElem?_map, path_get (by omega)] at hz'
            cases hz'
            have : itf (fun r => (into r).a) m room ≠ itf (fun r => (into r).a) n room := fun z => by
              have h1 := path_get (f := fun r => (into r).a) (room := room) (k := n) (i := m) (by omega)
              rw [z, ← hj] at h1
              have := (List.getElem?_inj (by rw [path_len]; omega) pn).mp h1
              omega
            simp [eqV, this]
          · rw [cut_drop _ _ (by rw [List.length_map, path_len]; omega), ← List.map_drop]
            refine ⟨(Ex.new (T := T) np').keep d _ (hdL A3.1) (fun _ z => by cases z), ?_⟩
            have npd : p' ≠ d := fun z => by
              rw [z, hdL A3.1] at np'
              cases np'
            refine q _ _ (fin _ (A3.1.trans (Ex.new np'))) ⟨_, ⟨p', _, rfl, by rw [upd_ne npd, upd_same], paired_of_map (F := fun v d => eqI d v _) (f := V.int) (fun _ => rfl) _⟩, .inr ⟨?_, ?_, ?_, ring_drop pn jl hje⟩⟩
            · intro z
              have := congrArg List.length z
              rw [List.length_drop, path_len] at this
              simp at this
              omega
            · exact pn.sublist (List.drop_sublist _ _)
            · exact fun x hx => ps x (List.mem_of_mem_drop hx)
        · simp at hne
          refine ⟨_, _, _, rfl, (A2.ex e3).1, fun r hr => ?_⟩
          rw [List.take_add_one, hroom] at hr
          rcases List.mem_append.mp hr with hr | hr
          · exact hprev r hr
          · have hr' : r = room := by simpa using hr
            rw [hr']
            exact ⟨n, ln, hne⟩
    · rintro σ H' ⟨x2, x3, x4, rfl, e, hprev⟩
      rw [hlen, List.take_length] at hprev
      refine ⟨hdL e, Nat.zero_le _, fun p np => ?_⟩
      exact q _ _ ((fin _ e).trans (Ex.new np)) ⟨[], ⟨p, [], rfl, upd_same, .nil⟩, .inl ⟨rfl, hprev⟩⟩
end
end WI
set_option maxRecDepth 100000
set_option maxHeartbeats 4000000
/-! A lambda of one name, known to the heap; min and sorted by such a key. -/
namespace WI
open PySem PySem.Spec L2 LamX

/-- the object at f is a lambda -/
def LamO (f : Addr) (q : Str) (params : Arguments) (body : Expr) (scope : Scope) (cl : List (Str × Addr)) (c' : Addr) : HO := .ext fun h => ∃ (od : Option Addr) (sl : Array (Option Value)) (pm ctv : Value), h.get? f = some (⟨.type "function", od, .func (PySem.W.kla_fn "<lambda>" q params body scope cl pm (.ref c') ctv), sl⟩ : Obj)
section
variable {X : Cx} {pins : List (Addr × Obj)} {σ : L2.St} {H : Hp} {s : Shared}
theorem lamO_at {P : Program} {w : World} {H : Hp} {h : Heap} {f c' : Addr} {q : Str} {params : Arguments} {body : Expr} {scope : Scope} {cl : List (Str × Addr)} (hok : HOk P w H h) (e : H f = some (LamO f q params body scope cl c')) :
    ∃ (od : Option Addr) (sl : Array (Option Value)) (pm ctv : Value), h.get? f = some (⟨.type "function", od, .func (PySem.W.kla_fn "<lambda>" q params body scope cl pm (.ref c') ctv), sl⟩ : Obj) := by
  obtain ⟨z, _, _⟩ := hok f _ e
  exact z
theorem inv_lam {q : Str} {params : Arguments} {body : Expr} {scope : Scope} {cl : List (Str × Addr)} {c' : Addr} {t' : Nat} {pm ctv : Value} (I : Inv X pins σ H s) :
    Inv X pins σ (upd H s.heap.objs.size (LamO s.heap.objs.size q params body scope cl c')) { s with heap := s.heap.push (PySem.W.kla_obj "<lambda>" q params body scope cl pm c' ctv), toks := t' } := by
  refine I.laid (a := s.heap.objs.size) (fun b u e => Heap.get?_push_of_some _ e) (Nat.le_refl _) ?_
  have e : (s.heap.push (PySem.W.kla_obj "<lambda>" q params body scope cl pm c' ctv)).get? s.heap.objs.size = some (PySem.W.kla_obj "<lambda>" q params body scope cl pm c' ctv) := Heap.get?_push_size _ rfl
  exact ⟨⟨_, _, pm, ctv, e⟩, ⟨_, e⟩, fun h1 h2 ⟨od, sl, p, t, z⟩ st => ⟨od, sl, p, t, st _ z⟩⟩
theorem lam_make3 {T : LTab} {c P : Addr} {params : Arguments} {body : Expr} {scope : Scope} {pos : Pos} {E : Value → Shared → Prop} {Q : Value → Shared → Prop} (I : Inv X pins σ H s) (TB : TabB X.base X.mg c P) (hcode : X.env.code = .ref c)
    (hm : (P, X.env.qual ++ "<lambda>") ∈ T) (hu : ∀ p ∈ T, p.1 = P → p.2 = X.env.qual ++ "<lambda>") (hT : Tabs T H) (hdef : defaultsOf params X.env = ([], [])) (hfree : ∀ y ∈ scope.names, y.2 = .free → ∃ c, X.env.cells.lookup y.1 = some c)
    (h : ∀ (f c' : Addr) (H1 : Hp) (s' : Shared), Inv X pins σ H1 s' → Ex T H H1 → H f = none → H1 f = some (LamO f (X.env.qual ++ "<lambda>") params body scope (cloFrom X.env.cells scope.names []) c') → H1 c' = some (CodeO c' (X.env.qual ++ "<lambda>")) → Q (.ref f) s') :
    wpAny (model X.prog X.w) X.A (eval (.Lambda params body scope pos) X.env) Q E s := by
  obtain ⟨ps, hP, ht, ha⟩ := hT _ hm
  refine PySem.W.kla_eval hdef ?_
  have bP : s.heap.BuiltinsAt X.mg P := TB.bm.keeps I.bk
  have hP' : s.heap.get? P = some { cls := .none, data := .fields ps } := I.hok P _ hP
  cases hc : codeAmong pos ps.toList with
  | none =>
    refine PySem.W.kla_makeFunction (mg := X.mg) (c := c) (P := P) (ps := ps) (closure_ok hfree) I.ok.glob (I.mod.glob.keeps I.bk) hcode (TB.code.keeps I.bk) hP' ht hc TB.gP bP fun c' ctv h' tk hx hge hlt hrec htb => ?_
    obtain ⟨c2, oc, vs, t, e2, hoc, hd, hv⟩ := hrec
    cases e2
    have hsz : s.heap.objs.size ≤ h'.objs.size := Nat.le_trans hge (Nat.le_of_lt hlt)
    have nC : H c' = none := I.hok.fresh hge
    have I1 := inv_table (t' := tk) (more := #[rawInt pos.line, rawInt pos.col, .ref c']) (h' := h') I hP (fun b o hb e => hx b o hb e) htb hge ⟨oc, vs, t, hoc, hd, hv⟩
    have hE : ExtN H (upd (upd H P (.tbl (ps ++ #[rawInt pos.line, rawInt pos.col, .ref c']))) c' (CodeO c' (X.env.qual ++ "<lambda>"))) := fun b o e n => by
      rw [upd_ne (ne_of_none e nC), upd_ne (fun z => n ps (Option.some.inj (e.symm.trans (by rw [z]; exact hP))))]
      exact e
    have eL : (ps ++ #[rawInt pos.line, rawInt pos.col, .ref c']).toList = ps.toList ++ [rawInt pos.line, rawInt pos.col, .ref c'] := by simp
    have T1 : Tabs T H → Tabs T (upd (upd H P (.tbl (ps ++ #[rawInt pos.line, rawInt pos.col, .ref c']))) c' (CodeO c' (X.env.qual ++ "<lambda>"))) := fun hT p hp => by
      by_cases hb : p.1 = P
      · rw [hu p hp hb, hb]
        refine ⟨_, by rw [upd_ne (ne_of_none hP nC), upd_same], by rw [eL]; exact PySem.TriplesOk_snoc _ _ _ _ ht, fun p' cv hcv => ?_⟩
        rw [eL] at hcv
        rcases among_app _ ht hcv with z | z
        · obtain ⟨c0, e1, e2⟩ := ha p' cv z
          exact ⟨c0, e1, hE _ _ e2 codeO_ne⟩
        · exact ⟨c', z, upd_same⟩
      · obtain ⟨ps', a1, a2, a3⟩ := hT p hp
        refine ⟨ps', by rw [upd_ne (ne_of_none a1 nC), upd_ne hb]; exact a1, a2, fun p' cv hcv => ?_⟩
        obtain ⟨c0, e1, e2⟩ := a3 p' cv hcv
        exact ⟨c0, e1, hE _ _ e2 codeO_ne⟩
    have nF := I1.hok.fresh (Nat.le_refl _)
    have I2 := inv_lam (q := X.env.qual ++ "<lambda>") (params := params) (body := body) (scope := scope) (cl := cloFrom X.env.cells scope.names []) (c' := c') (t' := tk) (pm := (X.mg "__name__").getD .none) (ctv := ctv) I1
    refine h h'.objs.size c' _ _ I2 ⟨fun b o e n => ?_, fun b e => NdefX.upd_none (NdefX.upd_none (NdefX.upd_none e)), fun hT => (T1 hT).ext fun b o e => ?_⟩ (I.hok.fresh hsz) upd_same ?_
    · have e1 := hE b o e n
      exact (upd_ne (ne_of_none e1 nF)).trans e1
    · exact (upd_ne (ne_of_none e nF)).trans e
    · exact (upd_ne (Nat.ne_of_lt hlt)).trans upd_same
  | some cv =>
    obtain ⟨c', e, hco⟩ := ha pos cv hc
    subst e
    refine PySem.W.kla_makeFunctionHit (mg := X.mg) (c := c) (P := P) (ps := ps) (closure_ok hfree) I.ok.glob (I.mod.glob.keeps I.bk) hcode (TB.code.keeps I.bk) hP' ht hc bP fun ctv h' tk hx hsz => ?_
    have I1 : Inv X pins σ H { s with heap := h', toks := tk } := I.kept hx
    have nF : H h'.objs.size = none := I1.hok.fresh (Nat.le_refl _)
    have I2 := inv_lam (q := X.env.qual ++ "<lambda>") (params := params) (body := body) (scope := scope) (cl := cloFrom X.env.cells scope.names []) (c' := c') (t' := tk) (pm := (X.mg "__name__").getD .none) (ctv := ctv) I1
    refine h h'.objs.size c' _ _ I2 ⟨fun b o e n => ?_, fun b e => NdefX.upd_none e, fun hT => hT.ext fun b o e => ?_⟩ nF upd_same ?_
    · exact (upd_ne (ne_of_none e nF)).trans e
    · exact (upd_ne (ne_of_none e nF)).trans e
    · exact (upd_ne (ne_of_none hco nF)).trans hco
end
/-- what a lambda expression comes to -/
def tLamO (T : LTab) (q : Str) (params : Arguments) (body : Expr) (scope : Scope) (cl : List (Str × Addr)) : TE := fun σ H Q => Tabs T H ∧ ∀ (f c' : Addr) (H1 : Hp), Ex T H H1 → H f = none → H1 f = some (LamO f q params body scope cl c') → H1 c' = some (CodeO c' q) → Q (.ref f) H1
theorem pe_lamO {X : Cx} {T : LTab} {c P : Addr} {params : Arguments} {body : Expr} {scope : Scope} {pos : Pos} (TB : TabB X.base X.mg c P) (hcode : X.env.code = .ref c) (hm : (P, X.env.qual ++ "<lambda>") ∈ T) (hu : ∀ p ∈ T, p.1 = P → p.2 = X.env.qual ++ "<lambda>")
    (hfree : ∀ y ∈ scope.names, y.2 ≠ .free) (hdef : defaultsOf params X.env = ([], [])) : PE X (.Lambda params body scope pos) (tLamO T (X.env.qual ++ "<lambda>") params body scope (cloFrom X.env.cells scope.names [])) := by
  refine ⟨fun pins s σ H Q I h => ?_⟩
  obtain ⟨hT, h⟩ := h
  exact lam_make3 I TB hcode hm hu hT hdef (fun y hy e => absurd e (hfree y hy)) fun f c' H1 s' I1 e nf lf cf => ⟨.ref f, H1, I1, rfl, h f c' H1 e nf lf cf⟩

/-! ### the call of a lambda of one name -/
section
variable {P : Program} {w : World} {A : Around} {E : Value → Shared → Prop} {s : Shared} {Q : Value → Shared → Prop}
theorem lam_call1 {f c' : Addr} {q x : Str} {params : Arguments} {body : Expr} {scope : Scope} {cl : List (Str × Addr)} {od : Option Addr} {sl : Array (Option Value)} {pm ctv v : Value}
    (hf : s.heap.get? f = some (⟨.type "function", od, .func (PySem.W.kla_fn "<lambda>" q params body scope cl pm (.ref c') ctv), sl⟩ : Obj)) (hc : s.heap.CodeRec (.ref c') q) (hd : A.depth < recursionLimit) (nl : s.heap.NoLimit)
    (hb : bindArgs (PySem.W.kla_fn "<lambda>" q params body scope cl pm (.ref c') ctv) ⟨[v], []⟩ = pure [(x, v)]) (hloc : scope.names.lookup x = some .local) (hk : scope.kind = .function) (hco : scope.isCoroutine = false) (hgen : scope.isGenerator = false) (hcell : ∀ y ∈ scope.names, y.2 ≠ .cell)
    (h : ∀ (A' : Around) (h₁ : Heap) (L' : Addr) (tk : Nat), h₁.Ns L' (fun y => [(x, v)].lookup y) → (∀ b o, s.heap.get? b = some o → h₁.get? b = some o) →
      wpAny (model P w) A' (eval body (PySem.W.envX q scope L' f (.ref c') cl)) Q (fun _ _ => False) { s with heap := h₁, toks := tk }) :
    wpAny (model P w) A (call (.ref f) [v]) Q E s := by
  refine wpAny_call ?_
  refine PySem.W.kla_callFunE hd hf rfl hco hgen rfl hc ?_
  rw [hb]
  refine wpAny_pure (wpAny_newFunctionEnv hcell (fun y hy => by rw [List.mem_singleton.mp hy]; exact hloc) (fun h₁ hns hsb => ⟨nl.fresh _ hsb, ?_⟩) hk)
  have kp : ∀ b o, s.heap.get? b = some o → h₁.get? b = some o := fun b o e => hsb.extBut b o (Nat.ne_of_lt (Heap.lt_size e)) (Heap.get?_push_of_some _ e)
  refine PySem.W.kla_codeExpr (wpAny_mono (h _ h₁ _ _ hns kp) (fun v s' hq => hq) fun e s' hq => hq.elim)
end
end WI
set_option maxRecDepth 100000
set_option maxHeartbeats 4000000
/-! min(some, key=lambda arc: arc[2]), sorted(found, key=lambda lot: (len(lot), lot)). -/
namespace WI
open PySem PySem.Spec L2 LamX

/-! ### the two bodies -/
section
variable {P : Program} {w : World} {A : Around} {s : Shared} {Q : Value → Shared → Prop}
theorem body_third {L f c' t : Addr} {q x : Str} {scope : Scope} {cl : List (Str × Addr)} {its : Array Value} {u : Value} {k0 : Nat} {p1 p2 p3 : Pos} (hns : s.heap.Ns L (fun y => [(x, Value.ref t)].lookup y)) (ht : PyProof.Rows.IsTup s.heap t its) (h2 : its[2]? = some u)
    (hk : scope.kind = .function) (hl : scope.names.lookup x = some .local) (hd : (x == ("__debug__" : Str)) = false) (h : Q u { s with toks := s.toks + 1 }) :
    wpAny (model P w) A (eval (.Subscript (.Name x p1) (.Constant (.int 2) k0 p2) p3) (PySem.W.envX q scope L f (.ref c') cl)) Q (fun _ _ => False) s := by
  refine PyProof.Rows.Subscript_ (wpAny_Name (wpAny_loadName_local hk hl hns (show [(x, Value.ref t)].lookup x = some (.ref t) by simp [List.lookup]) (wpAny_Constant_int ?_)) hd)
  have pl : PyProof.Rows.IsTup ({ s with toks := s.toks + 1 } : Shared).heap t its := ht
  refine PyProof.Rows.subscriptTail_builtinR (x := u) pl.typeIs PyProof.Rows.slot_tuple_getitem.lookup (PyProof.Rows.getItem_tuple (j := 2) (Q := fun r s' => r = u ∧ Q r s') pl (by decide) (by decide) ?_ h2 ⟨rfl, h⟩) ?_
  · have : 2 < its.size := (Array.getElem?_eq_some_iff.mp h2).1
    unfold seqIndex?
    have e1 : ((2 : Int) < (its.size : Int)) := by omega
    simp [e1]
  · with_unfolding_all rfl
theorem body_len {L f c' t : Addr} {q x : Str} {scope : Scope} {cl : List (Str × Addr)} {its : Array Value} {k0 : Nat} {p1 p2 p3 p4 p5 : Pos} {mg mb : Str → Option Value} (hns : s.heap.Ns L (fun y => [(x, Value.ref t)].lookup y)) (ht : PyProof.Rows.IsTup s.heap t its) (hz : its.size ≤ sizeLine)
    (hg : s.heap.Ns mainGlobals mg) (hm : mg "len" = none) (hb : s.heap.Ns builtinsNs mb) (hbl : mb "len" = some (.builtin "len"))
    (hk : scope.kind = .function) (hl : scope.names.lookup x = some .local) (hll : scope.names.lookup ("len" : Str) = some .globalImplicit) (hd : (x == ("__debug__" : Str)) = false)
    (h : ∀ (h' : Heap) (tk tk' : Nat) (a : Addr), (∀ b o, s.heap.get? b = some o → h'.get? b = some o) → h'.get? a = some { cls := .type "tuple", data := .seq #[.int its.size tk', .ref t] } → Q (.ref a) { s with heap := h', toks := tk }) :
    wpAny (model P w) A (eval (.Tuple [.Call (.Name "len" p1) [.Name x p2] [] p3, .Name x p4] k0 p5) (PySem.W.envX q scope L f (.ref c') cl)) Q (fun _ _ => False) s := by
  have hn := line63
  refine wpAny_Tuple_spliced ?_
  show wpAny _ _ (spliced ((false, eval (.Call (.Name "len" p1) [.Name x p2] [] p3) (PySem.W.envX q scope L f (.ref c') cl)) :: (false, eval (.Name x p4) (PySem.W.envX q scope L f (.ref c') cl)) :: [])) _ _ _
  refine Calls.spliced_cons (wpAny_Call_Name_kw (Calls.Name_function_global hk hll (Calls.loadGlobal_builtin hg hm hb hbl ?_)))
  refine PyProof.Rows.callWith_builtin1 ?_
  show wpAny _ _ (spliced ((false, eval (.Name x p2) (PySem.W.envX q scope L f (.ref c') cl)) :: [])) _ _ _
  refine Calls.spliced_cons (wpAny_Name (wpAny_loadName_local hk hl hns (show [(x, Value.ref t)].lookup x = some (.ref t) by simp [List.lookup]) (Calls.spliced_nil ?_)) hd)
  refine PyProof.Rows.len_tuple ht (by omega) ?_
  refine Calls.spliced_cons (wpAny_Name (wpAny_loadName_local hk hl hns (show [(x, Value.ref t)].lookup x = some (.ref t) by simp [List.lookup]) (Calls.spliced_nil ⟨by simp [sizeLine_eq], ?_⟩)) hd)
  exact h _ _ _ _ (fun b o e => Heap.get?_push_of_some _ e) (Heap.get?_push_size _ rfl)
end

/-! ### min by a key -/
section
variable {X : Cx} {pins : List (Addr × Obj)} {σ : L2.St} {H : Hp} {s : Shared}
theorem kept_all {g h h' : Heap} {L : Addr} {m : Str → Option Value} {news : List (Addr × Obj)} (k : ∀ b o, g.get? b = some o → h.get? b = some o) (F : PyProof.Rows.Fr g L h' m) (N : PyProof.Rows.News g L h' news) (hs : ∀ p ∈ allNews g h L, p ∈ news) :
    ∀ b o, b ≠ L → h.get? b = some o → h'.get? b = some o := fun b o h1 e => by
  cases q : g.get? b with
  | some u =>
    have := k b u q
    rw [e] at this; cases this
    exact F.keep b _ q
  | none => exact (N (b, o) (hs _ (mem_allNews h1 q e))).1
theorem inv_fr {h' : Heap} {m : Str → Option Value} {tk : Nat} (I : Inv X pins σ H s) (hns : s.heap.Ns X.env.locals m) (F : PyProof.Rows.Fr X.base X.env.locals h' m) (k : ∀ b o, b ≠ X.env.locals → s.heap.get? b = some o → h'.get? b = some o) :
    Inv X pins σ H { s with heap := h', toks := tk } := by
  have nL : ∀ b u, H b = some u → b ≠ X.env.locals := fun b u e z => by rw [z, I.free] at e; cases e
  refine I.step (g' := s.gens) (d' := s.drawn) (ch := []) (fun _ z => nomatch z) (fun b o h1 _ _ e _ => k b o h1 e) (fun b o h1 _ _ e _ => ⟨o.slots, k b o h1 e⟩) (fun _ _ _ _ n => n)
    (fun b o _ e => ?_) (fun _ _ e => e) (fun _ _ _ e => e) (fun b ps e => ⟨#[], by rw [e]; simp⟩) (fun m' hm => ?_) (fun b u e => ?_) I.bare
  · by_cases z : b = X.env.locals
    · obtain ⟨o', _, _, ho, _⟩ := F.ns
      exact ⟨o', by rw [z]; exact ho⟩
    · exact ⟨o, k b o z e⟩
  · rw [SlX.ns_only hm hns]
    exact F.ns
  · refine (I.hok b u e).stay (fun c v hc q => k c v ?_ q) (fun _ q => q) fun _ _ q => q
    rcases hc with z | z
    · rw [z]; exact nL b u e
    · exact nL c _ z
/-- the words of a lambda of one name -/
structure Lam1 (params : Arguments) (body : Expr) (scope : Scope) (x : Str) : Prop where
  bind : ∀ (q : Str) (cl : List (Str × Addr)) (pm cv ctv v : Value), bindArgs (PySem.W.kla_fn "<lambda>" q params body scope cl pm cv ctv) ⟨[v], []⟩ = pure [(x, v)]
  loc : scope.names.lookup x = some .local
  kind : scope.kind = .function
  co : scope.isCoroutine = false
  gen : scope.isGenerator = false
  cell : ∀ y ∈ scope.names, y.2 ≠ .cell
  db : (x == ("__debug__" : Str)) = false
def rMinK (K : PySem.W.Frag) (params : Arguments) (body : Expr) (scope : Scope) : List V → List V → Hp → VK → Prop := fun xs zs H Q => ∃ (a f c' : Addr) (q : Str) (cl : List (Str × Addr)) (ys : List V) (ks : List Int), xs = [.ref a] ∧ zs = [.ref f] ∧ H a = some (.lst ys) ∧ 0 < ys.length ∧
  H f = some (LamO f q params body scope cl c') ∧ H c' = some (CodeO c' q) ∧ Paired (fun y k => ∃ t zs, y = V.ref t ∧ SqT K H t zs ∧ zs[2]? = some (.int k)) ys ks ∧
  ∀ (i : Nat) (y : V) (k : Int), ys[i]? = some y → ks[i]? = some k → (∀ k' ∈ ks, k ≤ k') → Q y H
theorem cr_minK {params : Arguments} {body : Expr} {scope : Scope} {x : Str} {k0 : Nat} {n : Nat} {p1 p2 p3 : Pos} (L1 : Lam1 params body scope x) (hbody : body = .Subscript (.Name x p1) (.Constant (.int 2) k0 p2) p3) (hr : Room n X.A) :
    CallRK X (.builtin "min") [Str.ofString "key"] (rMinK X.K params body scope) := by
  intro pins s σ H xs zs us ws Q I r rz h
  obtain ⟨a, f, c', q, cl, ys, ks, rfl, rfl, ha, ne, hf, hc, hk, qq⟩ := h
  obtain rfl := Vals.ref1 r
  obtain rfl := Vals.ref1 rz
  obtain ⟨hz, its, n0, rv, hob⟩ := I.hok a _ ha
  obtain ⟨m, F⟩ := I.fr
  obtain ⟨od, sl, pm, ctv, hfo⟩ := lamO_at I.hok hf
  obtain ⟨cc, oc, vs, t0, ec, hoc, hdc, hvc⟩ := NdefX.codeO_at I.hok hc
  cases ec
  have nL : ∀ b u, H b = some u → b ≠ X.env.locals := fun b u e z => by rw [z, I.free] at e; cases e
  have hlen := rv.length
  show wpAny _ _ (call (.builtin "min") [.ref a] [(Str.ofString "key", .ref f)]) _ _ _
  refine PyProof.Rows.kmk_min (h₀ := X.base) (L := X.env.locals) (m := m) (news := allNews X.base s.heap X.env.locals) (vs := its) (kf := fun i => ks.getD i 0) hr.hd F news_all (fun h' F' N' => ?_) (by omega) (fun i v hv h' tk own F' N' => ?_) fun i v h' tk' hv hbest F' N' => ?_
  · exact ⟨_, kept_all I.bk F' N' (fun _ z => z) a _ (nL _ _ ha) hob, rfl, n0, rfl⟩
  · have kp := kept_all I.bk F' N' (fun p z => List.mem_append_left _ z)
    obtain ⟨y, hy, ry⟩ := paired_get' rv hv
    obtain ⟨k, hki, t, zs, rfl, hsq, h2⟩ := paired_get hk hy
    cases ry
    obtain ⟨jts, rj, hT, _⟩ := I.tuple hsq
    obtain ⟨u, hu, ru⟩ := rj.get h2
    obtain ⟨tu, rfl⟩ := ru
    have tL : t ≠ X.env.locals := fun z => by
      obtain ⟨o, es, ep, ho, hd, _⟩ := F.ns
      obtain ⟨o', ho', _, n', hd'⟩ := hT
      rw [z, ho] at ho'
      cases ho'
      rw [hd] at hd'
      cases hd'
    obtain ⟨ot, hot, hct, nt, hdt⟩ := hT
    refine lam_call1 (kp f _ (nL _ _ hf) hfo) ⟨c', oc, vs, t0, rfl, kp _ _ (nL _ _ hc) hoc, hdc, hvc⟩ hr.depth (I.mod.nolimit.keeps F'.keep) (L1.bind _ _ _ _ _ _) L1.loc L1.kind L1.co L1.gen L1.cell fun A' h₁ L' tk1 hns kp1 => ?_
    subst hbody
    refine body_third hns ⟨ot, kp1 _ _ (kp _ _ tL hot), hct, nt, hdt⟩ (by simpa using hu) L1.kind L1.loc L1.db ?_
    have e1 : ks.getD i 0 = k := by rw [List.getD_eq_getElem?_getD, hki]; rfl
    refine ⟨h₁, _, tu, rfl, ?_, ⟨F'.ns.keeps kp1, fun b o e => kp1 b o (F'.keep b o e), F'.above⟩, N'.grown kp1⟩
    show Value.int k tu = Value.int (ks.getD i 0) tu
    rw [e1]
  · have kp := kept_all I.bk F' N' (fun _ z => z)
    obtain ⟨y, hy, ry⟩ := paired_get' rv hv
    obtain ⟨k, hki, _⟩ := paired_get hk hy
    have e1 : ks.getD i 0 = k := by rw [List.getD_eq_getElem?_getD, hki]; rfl
    have hkl := Paired.length hk
    refine ⟨y, H, inv_fr I F.ns F' kp, ry, qq i y k hy hki fun k' hk' => ?_⟩
    obtain ⟨j, hj⟩ := List.mem_iff_getElem?.mp hk'
    have e2 : ks.getD j 0 = k' := by rw [List.getD_eq_getElem?_getD, hj]; rfl
    have z := (hbest j (by have := (List.getElem?_eq_some_iff.mp hj).1; omega)).1
    rw [e1, e2] at z
    exact z
end

/-! ### sorted by a key -/
def keyD (d : List Int) : PyData := .tuple [.int d.length, .tuple (d.map .int)]
def lotLe (a b : List Int) : Bool := decide (a.length < b.length ∨ a.length = b.length ∧ a ≤ b)
theorem eqv_tuple_ints (xs ys : List Int) : PyData.eqv (.tuple (xs.map .int)) (.tuple (ys.map .int)) = decide (xs = ys) := by
  have hh : ∀ xs ys : List Int, PyData.eqvAll (xs.map .int) (ys.map .int) = decide (xs = ys) := by
    intro xs
    induction xs with
    | nil => intro ys; cases ys <;> simp [PyData.eqvAll]
    | cons x xs ih =>
      intro ys
      cases ys with
      | nil => simp [PyData.eqvAll]
      | cons y ys =>
        rw [List.map_cons, List.map_cons, PyData.eqvAll, ih ys]
        by_cases hxy : x = y <;> simp [PyData.eqv, hxy]
  rw [PyData.eqv]
  exact hh xs ys
theorem keyD_le : PySem.W.dataLe false keyD = lotLe := by
  funext a b
  rw [PySem.W.dataLe_eq]
  show (!PySem.W.dataLt (.tuple [.int b.length, .tuple (b.map .int)]) (.tuple [.int a.length, .tuple (a.map .int)])) = lotLe a b
  rw [PySem.W.dataLt_pair (by simp [PySem.W.alike]) (by rw [PySem.W.alike]; exact PySem.W.alike_ints _ _), PySem.W.dataLt_int, eqv_tuple_ints, PySem.W.dataLt_tuple]
  have e : PyProof.Rows.lexLt PyProof.Rows.itemOrd (PySem.W.keyToksAll (b.map .int)) (PySem.W.keyToksAll (a.map .int)) = decide (b < a) := PySem.W.dataLt_ints b a
  rw [e]
  unfold lotLe
  by_cases h : b.length = a.length
  · have h1 : PyData.eqv (.int (b.length : Int)) (.int (a.length : Int)) = true := by simp [PyData.eqv, h]
    rw [if_pos h1]
    by_cases h2 : b = a
    · subst h2
      simp
    · have h3 : (a.length < b.length ∨ a.length = b.length ∧ a ≤ b) ↔ ¬ b < a := by
        constructor
        · rintro (z | ⟨_, z⟩)
          · omega
          · exact z
        · intro z
          exact .inr ⟨h.symm, z⟩
      rw [if_neg (by simpa using h2), ← decide_not]
      exact decide_eq_decide.mpr h3.symm
  · have h1 : ¬ PyData.eqv (.int (b.length : Int)) (.int (a.length : Int)) = true := by
      simp only [PyData.eqv, beq_iff_eq]
      omega
    rw [if_neg h1]
    have h3 : (a.length < b.length ∨ a.length = b.length ∧ a ≤ b) ↔ ¬ ((b.length : Int) < (a.length : Int)) := by
      constructor
      · rintro (z | ⟨z, _⟩) <;> omega
      · intro z
        exact .inl (by omega)
    rw [← decide_not]
    exact decide_eq_decide.mpr h3.symm
section
variable {X : Cx} {pins : List (Addr × Obj)} {σ : L2.St} {H : Hp} {s : Shared}
def rSortK (K : PySem.W.Frag) (params : Arguments) (body : Expr) (scope : Scope) : List V → List V → Hp → VK → Prop := fun xs zs H Q => ∃ (a f c' : Addr) (q : Str) (cl : List (Str × Addr)) (ys : List V) (ds : List (List Int)), xs = [.ref a] ∧ zs = [.ref f] ∧ H a = some (.lst ys) ∧ ys.length ≤ 100000 ∧
  H f = some (LamO f q params body scope cl c') ∧ H c' = some (CodeO c' q) ∧ Paired (fun v d => IT K d v H) ys ds ∧
  ∀ (p : Addr) (ys' : List V), H p = none → Paired (fun v d => IT K d v H) ys' (ds.mergeSort lotLe) → Q (.ref p) (upd H p (.lst ys'))
theorem each_of {α β : Type} {R : α → β → Prop} : ∀ {l : List α} {m : List β}, Paired R l m → PySem.W.EachIs R l m
  | _, _, .nil => .nil
  | _, _, .cons p t => .cons p (each_of t)
theorem of_each {α β : Type} {R : α → β → Prop} : ∀ {l : List α} {m : List β}, PySem.W.EachIs R l m → Paired R l m
  | _, _, .nil => .nil
  | _, _, .cons p t => .cons p (of_each t)
theorem paired_split {F : V → List Int → Prop} : ∀ {us : List Value} {ds : List (List Int)}, Paired (fun u d => ∃ y, RelV y u ∧ F y d) us ds → ∃ ys, Vals ys us ∧ Paired F ys ds
  | _, _, .nil => ⟨[], .nil, .nil⟩
  | _, _, .cons ⟨y, r, p⟩ t => by
    obtain ⟨ys, h1, h2⟩ := paired_split t
    exact ⟨y :: ys, .cons r h1, .cons p h2⟩
theorem paired_join {F : V → List Int → Prop} : ∀ {us : List Value} {ys : List V} {ds : List (List Int)}, Vals ys us → Paired F ys ds → Paired (fun u d => ∃ y, RelV y u ∧ F y d) us ds
  | _, _, _, .nil, .nil => .nil
  | _, _, _, .cons r a, .cons p b => .cons ⟨_, r, p⟩ (paired_join a b)
theorem reads_ints {h : Heap} {ns : List Int} : ∀ {us : List Value}, Vals (ns.map V.int) us → ReadsAll h us (ns.map PyData.int) [] := by
  induction ns with
  | nil =>
    intro us r
    cases r
    exact .nil
  | cons n ns ih =>
    intro us r
    cases r with
    | cons p t =>
      obtain ⟨tk, rfl⟩ := p
      exact .cons (as := []) (bs := []) (.int n tk) (ih t)
theorem cr_sortK {params : Arguments} {body : Expr} {scope : Scope} {x : Str} {k0 : Nat} {n : Nat} {p1 p2 p3 p4 p5 : Pos} (L1 : Lam1 params body scope x) (hbody : body = .Tuple [.Call (.Name "len" p1) [.Name x p2] [] p3, .Name x p4] k0 p5) (hr : Room n X.A)
    (hll : scope.names.lookup ("len" : Str) = some .globalImplicit) (hm : X.mg "len" = none) (hbl : bootBuiltins "len" = some (.builtin "len")) :
    CallRK X (.builtin "sorted") [Str.ofString "key"] (rSortK X.K params body scope) := by
  intro pins s σ H xs zs us ws Q I r rz h
  obtain ⟨a, f, c', q, cl, ys, ds, rfl, rfl, ha, hsz, hf, hc, hp, qq⟩ := h
  obtain rfl := Vals.ref1 r
  obtain rfl := Vals.ref1 rz
  obtain ⟨hz, its, n0, rv, hob⟩ := I.hok a _ ha
  obtain ⟨od, sl, pm, ctv, hfo⟩ := lamO_at I.hok hf
  obtain ⟨cc, oc, vs, t0, ec, hoc, hdc, hvc⟩ := NdefX.codeO_at I.hok hc
  cases ec
  obtain ⟨mb, hb1, hb2⟩ := I.mod.blt
  have hlen := rv.length
  have hpl := Paired.length hp
  have hun := hr.un
  show wpAny _ _ (call (.builtin "sorted") [.ref a] [(Str.ofString "key", .ref f)]) _ _ _
  refine PySem.W.sorted_key_data (b := false) (vs := its) (bs := ds) (R := fun u d => ∃ y, RelV y u ∧ IT X.K d y H) keyD ⟨_, hob, rfl, n0, rfl⟩ (each_of (paired_join rv hp)) (PySem.W.AllAlike.of fun d d' => by
      show PySem.W.alike (.tuple [.int d.length, .tuple (d.map .int)]) (.tuple [.int d'.length, .tuple (d'.map .int)]) = true
      simp [PySem.W.alike, PySem.W.alikeAll, PySem.W.alike_ints]) (PySem.W.Sortable.tuples fun _ => ⟨_, _, rfl⟩) (by rw [sizeLine_eq]; omega) (fun d _ => ?_) (PyProof.Rows.ksk_s1 _ _) (fun _ => PyProof.Rows.ksk_l1 _ _) (fun _ => PyProof.Rows.ksk_t1 _ _) (fun v d hR hd h' tk kp => ?_) fun out c h' tk kp hn hD hl eo => ?_
  · have hdep : ∀ ns : List Int, PyData.depthAll (ns.map .int) = 0 := by
      intro ns
      induction ns with
      | nil => simp [PyData.depthAll]
      | cons n ns ih => simp [PyData.depthAll, PyData.depth, ih]
    have : (keyD d).depth ≤ 2 := by
      show PyData.depth (.tuple [.int d.length, .tuple (d.map .int)]) ≤ 2
      simp [PyData.depth, PyData.depthAll, hdep]
    omega
  · obtain ⟨y, ry, t, rfl, hsq⟩ := hR
    cases ry
    obtain ⟨jts, rj, ⟨ot, hot, hct, nt, hdt⟩, hjz⟩ := I.tuple hsq
    refine lam_call1 (kp f _ hfo) ⟨c', oc, vs, t0, rfl, kp _ _ hoc, hdc, hvc⟩ hr.depth (I.nolimit.keeps kp) (L1.bind _ _ _ _ _ _) L1.loc L1.kind L1.co L1.gen L1.cell fun A' h₁ L' tk1 hns kp1 => ?_
    subst hbody
    have kk : ∀ b o, s.heap.get? b = some o → h₁.get? b = some o := fun b o e => kp1 b o (kp b o e)
    refine body_len hns ⟨ot, kk _ _ hot, hct, nt, hdt⟩ (by rw [List.size_toArray, ← rj.length]; exact hjz) ((I.mod.glob.keeps I.bk).keeps kk) hm ((hb1.keeps I.bk).keeps kk) ((hb2 _ (by decide)).trans hbl) L1.kind L1.loc hll L1.db fun h2 tk2 tk3 a2 kp2 e2 => ?_
    refine ⟨h2, _, rfl, fun b o e => kp2 b o (kp1 b o e), ?_⟩
    refine .tuple (vs := #[.int jts.toArray.size tk3, .ref t]) e2 rfl rfl ?_
    have ez : (jts.toArray.size : Int) = (d.length : Int) := by rw [List.size_toArray, ← rj.length, List.length_map]
    rw [ez]
    refine .cons (as := []) (bs := []) (.int _ _) (.cons (as := []) (bs := []) (.tuple (kp2 _ _ (kk _ _ hot)) hct hdt ?_) .nil)
    exact reads_ints rj
  · have hout : out.length ≤ 100000 := by omega
    rw [keyD_le] at eo
    obtain ⟨ys', r1, r2⟩ := paired_split (of_each eo)
    have l1 := r1.length
    exact ⟨.ref _, upd H (s.heap.objs.size + 1) (.lst ys'), I.laid (t' := tk) kp (Nat.le_succ _) ⟨by rw [sizeLine_eq]; omega, out, c, r1, hD⟩, rfl, qq _ _ (I.hok.fresh (Nat.le_succ _)) r2⟩
end
end WI
set_option maxRecDepth 100000
set_option maxHeartbeats 4000000
/-! The rules of the two keyed calls, a def whose code object is named. -/
namespace WI
open PySem PySem.Spec L2 LamX
/-- the name of a lambda of the def x -/
abbrev lamQ (x : Str) : Str := x ++ ".<locals>." ++ "<lambda>"
/-- the code object of the def x is at c, its table at P0 -/
structure Tb (T : LTab) (base : Heap) (mg : Str → Option Value) (x : Str) (c P0 : Addr) : Prop where
  tab : TabB base mg c P0
  mem : (P0, lamQ x) ∈ T
  all : ∀ p ∈ T, p.1 = P0 → p.2 = lamQ x
structure FunC (K : PySem.W.Frag) (x : Str) (st : Stmt) (f c : Addr) (fd : FuncData) : Prop where
  ex : ∃ (oc : Value) (od : Option Addr) (kV doc pm : Value) (an : Option Addr) (ct : Value) (osl : Array (Option Value)),
    fd = PySem.W.fnOf x x (defArgs st) (defBody st) (defScope st) .none kV doc pm an (.ref c) ct ∧ K.lookup f = some ⟨oc, od, .func fd, osl⟩ ∧ PySem.W.codeIn K (.ref c) x = true
  kp : PySem.W.keepIn K (.ref f) = true
section
variable {P : Program} {w : World} {K : PySem.W.Frag} {mg : Str → Option Value} {base : Heap}
theorem FunC.to {x : Str} {st : Stmt} {f c : Addr} {fd : FuncData} (F : FunC K x st f c fd) : Fun K x x st f fd := by
  obtain ⟨oc, od, kV, doc, pm, an, ct, osl, e, lk, hcd⟩ := F.ex
  exact ⟨⟨oc, od, kV, doc, pm, an, .ref c, ct, osl, e, lk, hcd⟩, F.kp⟩
theorem FunC.ok {x : Str} {st : Stmt} {f c : Addr} {fd : FuncData} {N ps : List Str} {k : Nat} {sp : Sp} (F : FunC K x st f c fd) (S : FnScope N ps (defScope st)) (len : ∀ vs H Q E, sp vs H Q E → vs.length = ps.length)
    (hbody : ∀ (A : Around) (outer : List Env) (s : Shared) (H : Hp) (vs : List V) (Q : VK) (E : XK), Room k (A.deeper (PyProof.Rows.envOfC x (defScope st) s.heap.objs.size f (.ref c))) → sp vs H Q E →
      ∃ t, PSs (cxOf CX0 P w K mg base N x (defScope st) f (.ref c) A outer s H E).nox (defBody st) t ∧ t { nx := fun _ H' => Q .non H', rt := Q } (start N vs) H) : FnOk P w K mg base CX0 (k + 1) f fd ps sp := by
  obtain ⟨oc, od, kV, doc, pm, an, ct, osl, rfl, lk, hcd⟩ := F.ex
  refine fn_of lk hcd S len fun A outer s H vs Q E hr hsp => ?_
  obtain ⟨t, h, q⟩ := hbody A outer s H vs Q E hr hsp
  exact ⟨t, h.nox, q⟩
theorem funC_mk {x : Str} {st : Stmt} {f c : Addr} {oc : Value} {od an : Option Addr} {osl : Array (Option Value)} {kV doc pm ct : Value} (l : K.lookup f = some ⟨oc, od, .func (PySem.W.fnOf x x (defArgs st) (defBody st) (defScope st) .none kV doc pm an (.ref c) ct), osl⟩)
    (h : PySem.W.codeIn K (.ref c) x = true) (k : PySem.W.keepIn K (.ref f) = true) : FunC K x st f c (PySem.W.fnOf x x (defArgs st) (defBody st) (defScope st) .none kV doc pm an (.ref c) ct) := ⟨⟨oc, od, kV, doc, pm, an, ct, osl, rfl, l, h⟩, k⟩
end

/-! ### min by a key -/
def tMinK (K : PySem.W.Frag) (T : LTab) (q : Str) (params : Arguments) (body : Expr) (scope : Scope) (cl : List (Str × Addr)) (te : TE) : TE := tCKw (rMinK K params body scope) (tCons te tNil) (tCons (tLamO T q params body scope cl) tNil)
def tSortK (K : PySem.W.Frag) (T : LTab) (q : Str) (params : Arguments) (body : Expr) (scope : Scope) (cl : List (Str × Addr)) (te : TE) : TE := tCKw (rSortK K params body scope) (tCons te tNil) (tCons (tLamO T q params body scope cl) tNil)
section
variable {X : Cx}
theorem pe_minKey {T : LTab} {c P0 : Addr} {x y z : Str} {n k0 : Nat} {params : Arguments} {body : Expr} {scope : Scope} {te : TE} {p px p1 p2 p3 lpos kpos pos : Pos} (B : Tb T X.base X.mg x c P0) (hcode : X.env.code = .ref c) (hq : X.env.qual ++ "<lambda>" = lamQ x)
    (L1 : Lam1 params body scope y) (hbody : body = .Subscript (.Name y p1) (.Constant (.int 2) k0 p2) p3) (hr : Room n X.A) (hdef : defaultsOf params X.env = ([], [])) (hfree : ∀ y ∈ scope.names, y.2 ≠ .free) (hg : Gl X "min") (hm : X.mg "min" = none) (he : PE X (.Name z px) te) :
    PE X (.Call (.Name "min" p) [.Name z px] [⟨some "key", .Lambda params body scope lpos, kpos⟩] pos) (tMinK X.K T (X.env.qual ++ "<lambda>") params body scope (cloFrom X.env.cells scope.names []) te) :=
  pe_callBK (cr_minK L1 hbody hr) hg hm (by decide +kernel) (pa_cons he pa_nil) (pk_cons (pe_lamO B.tab hcode (by rw [hq]; exact B.mem) (by rw [hq]; exact B.all) hfree hdef) pk_nil)
theorem pe_sortKey {T : LTab} {c P0 : Addr} {x y z : Str} {n k0 : Nat} {params : Arguments} {body : Expr} {scope : Scope} {te : TE} {p px p1 p2 p3 p4 p5 lpos kpos pos : Pos} (B : Tb T X.base X.mg x c P0) (hcode : X.env.code = .ref c) (hq : X.env.qual ++ "<lambda>" = lamQ x)
    (L1 : Lam1 params body scope y) (hbody : body = .Tuple [.Call (.Name "len" p1) [.Name y p2] [] p3, .Name y p4] k0 p5) (hr : Room n X.A) (hll : scope.names.lookup ("len" : Str) = some .globalImplicit) (hml : X.mg "len" = none)
    (hdef : defaultsOf params X.env = ([], [])) (hfree : ∀ y ∈ scope.names, y.2 ≠ .free) (hg : Gl X "sorted") (hm : X.mg "sorted" = none) (he : PE X (.Name z px) te) :
    PE X (.Call (.Name "sorted" p) [.Name z px] [⟨some "key", .Lambda params body scope lpos, kpos⟩] pos) (tSortK X.K T (X.env.qual ++ "<lambda>") params body scope (cloFrom X.env.cells scope.names []) te) :=
  pe_callBK (cr_sortK L1 hbody hr hll hml (by decide +kernel)) hg hm (by decide +kernel) (pa_cons he pa_nil) (pk_cons (pe_lamO B.tab hcode (by rw [hq]; exact B.mem) (by rw [hq]; exact B.all) hfree hdef) pk_nil)
end
section
variable {T : LTab} {K : PySem.W.Frag} {H : Hp} {σ : L2.St} {te : TE} {q : Str} {params : Arguments} {body : Expr} {scope : Scope} {cl : List (Str × Addr)}
theorem ext_ne {f c' : Addr} : LamO f q params body scope cl c' ≠ .tbl ps := fun z => by
  unfold LamO at z
  cases z
theorem ev_minK {α : Type} {P : α → V → Hp → Prop} {ds : List α} {g : α → Int} (sP : ∀ d, Stb (P d)) (hP : ∀ d v H, P d v H → ∃ t zs, v = V.ref t ∧ SqT K H t zs ∧ zs[2]? = some (.int (g d))) (hT : Tabs T H) (h : Ev T te σ H (LL P ds)) (hne : ds ≠ []) :
    Ev T (tMinK K T q params body scope cl te) σ H (fun v H' => ∃ d ∈ ds, P d v H' ∧ ∀ d' ∈ ds, g d ≤ g d') := fun H1 e Q qq =>
  h H1 e _ fun v H2 e2 hv => ⟨(e.trans e2).tabs hT, fun f c' H3 e3 nf lf cf => by
    obtain ⟨a, vs, rfl, hl, p⟩ := hv.ex sP e3
    have pl := Paired.length p
    have pk : Paired (fun y k => ∃ t zs, y = V.ref t ∧ SqT K H3 t zs ∧ zs[2]? = some (.int k)) vs (ds.map g) := by
      clear hl pl hne h hv qq
      induction p with
      | nil => exact .nil
      | cons p _ ih => exact .cons (hP _ _ _ p) ih
    refine ⟨a, f, c', q, cl, vs, ds.map g, rfl, rfl, hl, ?_, lf, cf, pk, fun i y k hy hk hb => ?_⟩
    · have := List.length_pos_iff.mpr hne
      omega
    · obtain ⟨d, hd, pd⟩ := paired_get p hy
      rw [List.getElem?_map, hd] at hk
      cases hk
      exact qq _ _ (e2.trans e3) ⟨d, List.mem_of_getElem? hd, pd, fun d' hd' => hb _ (List.mem_map_of_mem hd')⟩⟩
theorem ev_sortK {ds : List (List Int)} (hT : Tabs T H) (h : Ev T te σ H (LL (IT K) ds)) (hz : ds.length ≤ 100000) :
    Ev T (tSortK K T q params body scope cl te) σ H (LL (IT K) (ds.mergeSort lotLe)) := fun H1 e Q qq =>
  h H1 e _ fun v H2 e2 hv => ⟨(e.trans e2).tabs hT, fun f c' H3 e3 nf lf cf => by
    obtain ⟨a, vs, rfl, hl, p⟩ := hv.ex (fun _ => IT.stb) e3
    have pl := Paired.length p
    refine ⟨a, f, c', q, cl, vs, ds, rfl, rfl, hl, by omega, lf, cf, p, fun p' ys' np hp => ?_⟩
    exact qq _ _ ((e2.trans e3).trans (Ex.new np)) ⟨p', ys', rfl, upd_same, paired_mono (fun x d k => IT.stb.ex k (Ex.new (T := T) np)) hp⟩⟩
end
end WI
set_option maxRecDepth 100000
/-! Data compared as a whole. -/
namespace WI
open PySem PySem.Spec L2 LamX
def Nice (n : Nat) (d : PyData) : Prop := d.canLay0 = true ∧ d.depth ≤ n
theorem nice_int {i : Int} : Nice 0 (.int i) := ⟨by simp [PyData.canLay0], by simp [PyData.depth]⟩
theorem nice_none : Nice 0 .none := ⟨by simp [PyData.canLay0], by simp [PyData.depth]⟩
theorem nice_all {n : Nat} : ∀ {ds : List PyData}, (∀ d ∈ ds, Nice n d) → PyData.canLayAll0 ds = true ∧ PyData.depthAll ds ≤ n
  | [], _ => ⟨by simp [PyData.canLayAll0], by simp [PyData.depthAll]⟩
  | d :: ds, h => by
    obtain ⟨h1, h2⟩ := nice_all (ds := ds) fun x hx => h x (List.mem_cons_of_mem _ hx)
    obtain ⟨h3, h4⟩ := h d (List.mem_cons_self ..)
    exact ⟨by rw [PyData.canLayAll0, h3, h1]; rfl, by simp only [PyData.depthAll]; omega⟩
theorem nice_list {n : Nat} {ds : List PyData} (h : ∀ d ∈ ds, Nice n d) : Nice (n + 1) (.list ds) := by
  obtain ⟨h1, h2⟩ := nice_all h
  exact ⟨by rw [PyData.canLay0]; exact h1, by simp only [PyData.depth]; omega⟩
theorem nice_tup {n : Nat} {ds : List PyData} (h : ∀ d ∈ ds, Nice n d) : Nice (n + 1) (.tuple ds) := by
  obtain ⟨h1, h2⟩ := nice_all h
  exact ⟨by rw [PyData.canLay0]; exact h1, by simp only [PyData.depth]; omega⟩
theorem nice_map {α : Type} {n : Nat} {f : α → PyData} {xs : List α} (h : ∀ x ∈ xs, Nice n (f x)) : ∀ d ∈ xs.map f, Nice n d := fun d hd => by
  obtain ⟨x, hx, rfl⟩ := List.mem_map.mp hd
  exact h x hx
theorem Nice.mono {n m : Nat} {d : PyData} (h : Nice n d) (k : n ≤ m) : Nice m d := ⟨h.1, Nat.le_trans h.2 k⟩
theorem Nice.shaped {n : Nat} {d : PyData} (h : Nice n d) (k : n ≤ 64 := by omega) : SeqAt.shaped d = true := by
  unfold SeqAt.shaped
  rw [h.1, decide_eq_true (Nat.le_trans h.2 k)]
  rfl
theorem eqv_int (i j : Int) : PyData.eqv (.int i) (.int j) = decide (i = j) := by
  by_cases h : i = j <;> simp [PyData.eqv, h]
theorem eqvAll_map {α : Type} [DecidableEq α] {f : α → PyData} (hf : ∀ a b, PyData.eqv (f a) (f b) = decide (a = b)) : ∀ xs ys : List α, PyData.eqvAll (xs.map f) (ys.map f) = decide (xs = ys)
  | [], [] => by simp [PyData.eqvAll]
  | [], y :: ys => by simp [PyData.eqvAll]
  | x :: xs, [] => by simp [PyData.eqvAll]
  | x :: xs, y :: ys => by
    rw [List.map_cons, List.map_cons, PyData.eqvAll, eqvAll_map hf xs ys, hf]
    by_cases h1 : x = y <;> by_cases h2 : xs = ys <;> simp [h1, h2]
theorem eqv_tuple {xs ys : List PyData} : PyData.eqv (.tuple xs) (.tuple ys) = PyData.eqvAll xs ys := by rw [PyData.eqv]
theorem eqv_list {xs ys : List PyData} : PyData.eqv (.list xs) (.list ys) = PyData.eqvAll xs ys := by rw [PyData.eqv]
/-- a tuple of ints, as data -/
def dI (ns : List Int) : PyData := .tuple (ns.map .int)
theorem nice_dI {ns : List Int} : Nice 1 (dI ns) := nice_tup (nice_map fun _ _ => nice_int)
theorem eqv_dI (a b : List Int) : PyData.eqv (dI a) (dI b) = decide (a = b) := by
  unfold dI
  rw [eqv_tuple, eqvAll_map eqv_int]
section
variable {T : LTab} {K : PySem.W.Frag} {H H' : Hp} {σ : L2.St} {ta tb : TE}
mutual
theorem dp_ex (e : Ex T H H') : ∀ {v : V} {d : PyData}, Dp K H v d → Dp K H' v d
  | _, _, .non => .non
  | _, _, .bl b => .bl b
  | _, _, .int i => .int i
  | _, _, .str x => .str x
  | _, _, .lst h p => .lst (e.sql h) (dpAll_ex e p)
  | _, _, .tup h p => .tup (e.sqt h) (dpAll_ex e p)
theorem dpAll_ex (e : Ex T H H') : ∀ {vs : List V} {ds : List PyData}, DpAll K H vs ds → DpAll K H' vs ds
  | _, _, .nil => .nil
  | _, _, .cons p t => .cons (dp_ex e p) (dpAll_ex e t)
end
theorem dpAll_of {α : Type} {P : α → V → Hp → Prop} {f : α → PyData} (h : ∀ d v, P d v H → Dp K H v (f d)) : ∀ {vs : List V} {ds : List α}, Paired (fun v d => P d v H) vs ds → DpAll K H vs (ds.map f)
  | _, _, .nil => .nil
  | _, _, .cons p t => .cons (h _ _ p) (dpAll_of h t)
theorem dp_IT {ns : List Int} {v : V} (h : IT K ns v H) : Dp K H v (dI ns) := by
  obtain ⟨a, rfl, hs⟩ := h
  refine .tup hs (dpAll_of (P := eqI) (f := PyData.int) (fun d v e => ?_) (paired_of_map (F := fun v d => eqI d v H) (f := V.int) (fun _ => rfl) ns))
  rw [show v = .int d from e]
  exact .int d
theorem dp_LL {α : Type} {P : α → V → Hp → Prop} {f : α → PyData} (h : ∀ d v, P d v H → Dp K H v (f d)) {ds : List α} {v : V} (hl : LL P ds v H) : Dp K H v (.list (ds.map f)) := by
  obtain ⟨a, vs, rfl, hs, p⟩ := hl
  exact .lst (.of hs) (dpAll_of h p)
theorem dp_TT {α : Type} {P : α → V → Hp → Prop} {f : α → PyData} (h : ∀ d v, P d v H → Dp K H v (f d)) {ds : List α} {v : V} (hl : TT' K P ds v H) : Dp K H v (.tuple (ds.map f)) := by
  obtain ⟨a, vs, rfl, hs, p⟩ := hl
  exact .tup hs (dpAll_of h p)
theorem ev_eqD {d d' : PyData} (ha : Ev T ta σ H (fun v H1 => Dp K H1 v d)) (hb : Ev T tb σ H (fun v H1 => Dp K H1 v d')) (h1 : SeqAt.shaped d = true) (h2 : SeqAt.shaped d' = true) : Ev T (tOp (rEqD K) ta tb) σ H (fun v _ => v = .bl (PyData.eqv d d')) := fun H1 e Q q =>
  ha H1 e _ fun v H2 e2 hv => hb H2 (e.trans e2) _ fun y H3 e3 hy => ⟨d, d', dp_ex e3 hv, hy, h1, h2, q _ _ (e2.trans e3) rfl⟩
theorem ev_neD {d d' : PyData} (ha : Ev T ta σ H (fun v H1 => Dp K H1 v d)) (hb : Ev T tb σ H (fun v H1 => Dp K H1 v d')) (h1 : SeqAt.shaped d = true) (h2 : SeqAt.shaped d' = true) : Ev T (tOp (rNeD K) ta tb) σ H (fun v _ => v = .bl (!PyData.eqv d d')) := fun H1 e Q q =>
  ha H1 e _ fun v H2 e2 hv => hb H2 (e.trans e2) _ fun y H3 e3 hy => ⟨d, d', dp_ex e3 hv, hy, h1, h2, q _ _ (e2.trans e3) rfl⟩
/-- the empty list -/
theorem ev_nil : Ev T (tLst tNil) σ H (fun v H1 => Dp K H1 v (.list [])) := fun H1 e Q q => ⟨Nat.zero_le _, fun p np => q _ _ (Ex.new np) (.lst (.of upd_same) .nil)⟩
theorem ev_emptyL {α : Type} {P : α → V → Hp → Prop} : Ev T (tLst tNil) σ H (LL P []) := fun H1 e Q q => ⟨Nat.zero_le _, fun p np => q _ _ (Ex.new np) ⟨p, [], rfl, upd_same, .nil⟩⟩
end
end WI
set_option maxRecDepth 100000
/-! least_tree. -/
namespace WI
open PySem PySem.Spec L2 LamX RZ StX
section
variable {T : LTab} {P : Program} {w : World} {K : PySem.W.Frag} {mg : Str → Option Value} {base : Heap}
def optV : Option Int → V
  | none => .non
  | some c => .int c
theorem ev_toName {σ : L2.St} {H : Hp} {i j k : Nat} {C : List Int} {vC : V} {name r : Int} (hi : σ[i]? = some (some (.int r))) (hj : σ[j]? = some (some vC)) (hC : LL eqI C vC H) (hk : σ[k]? = some (some (.int name))) :
    Ev T (tIf (tTest (tOp (rIn K false) (tVar i) (tVar j))) (tVar k) (tVar i)) σ H (fun v _ => v = .int (toName C name r)) := by
  refine ev_if (et_test (ev_inL (neg := false) (ev_var hi) (ev_varL (fun _ => stb_eqI) hj hC))) (fun h => ?_) (fun h => ?_)
  · have h' : r ∈ C := by simpa using h
    refine (ev_var hk).imp fun v H2 _ e => ?_
    rw [e, toName_in h']
  · have h' : r ∉ C := by simpa using h
    refine (ev_var hi).imp fun v H2 _ e => ?_
    rw [e, toName_out h']
theorem ev_get {σ : L2.St} {H : Hp} {i j : Nat} {d : Addr} {kvs : List (Key × V)} {rs : List Int} {into : Int → Arc} {r : Int} (hi : σ[i]? = some (some (.ref d))) (hj : σ[j]? = some (some (.int r))) (hd : H d = some (.dK kvs)) (hk : KVs K into rs kvs H) (hr : r ∈ rs) :
    Ev T (tDGet (tVar i) (tVar j)) σ H (AV K (into r)) := fun H1 e Q q => by
  obtain ⟨x, hx, ax⟩ := kvs_some hk hr
  exact ⟨_, hi, _, hj, d, x, rfl, .inl ⟨kvs, Sum.inl r, .inl (e.dK hd), rfl, hx.symm⟩, q x H1 (Ex.refl _) ((AV.stb _).ex ax e)⟩
theorem ev_third {σ : L2.St} {H : Hp} {te : TE} {e : Arc} (h : Ev T te σ H (AV K e)) : Ev T (tOp (rIxT K) te (tC (.int 2))) σ H (fun v _ => v = .int e.c) :=
  ev_ixT (P := eqI) (i := 2) (fun _ => stb_eqI) (h.imp fun v H2 _ h => IT.tt h) ev_c rfl
theorem KVs.cong {into into' : Int → Arc} : ∀ {rs : List Int} {kvs : List (Key × V)} {H : Hp}, KVs K into rs kvs H → (∀ r ∈ rs, into r = into' r) → KVs K into' rs kvs H
  | _, _, _, .nil, _ => .nil
  | r :: rs, kv :: kvs, H, .cons p t, h => .cons (by rw [← h r (List.mem_cons_self ..)]; exact p) (KVs.cong (show KVs K into rs kvs H from t) fun x hx => h x (List.mem_cons_of_mem _ hx))
def sp_least_tree (T : LTab) (K : PySem.W.Frag) (n : Nat) : Sp := fun vs H Q _ => ∃ (a b : Addr) (rooms : List Int) (arcs : List Arc) (root : Int), vs = [.ref a, .ref b, .int root] ∧ Tabs T H ∧ LL eqI rooms (.ref a) H ∧ LL (AV K) arcs (.ref b) H ∧ rooms.Nodup ∧ rooms.length < n ∧ n ≤ 1000 ∧ arcs.length ≤ 1000 ∧ ArcsIn rooms arcs ∧
  Pure T (fun v _ => ∃ o, v = optV o ∧ Least rooms arcs root o) H Q
theorem filter_take_succ {l : List Int} {i : Nat} {x : Int} (f : Int → Bool) (h : l[i]? = some x) : (l.take (i + 1)).filter f = if f x = true then (l.take i).filter f ++ [x] else (l.take i).filter f := by
  rw [List.take_add_one, h, List.filter_append]
  by_cases q : f x = true
  · rw [if_pos q]; simp [q]
  · rw [if_neg q]; simp [q]
theorem sumF_snoc (l : List Int) (x : Int) (f : Int → Int) : sumF (l ++ [x]) f = sumF l f + f x := by simp [sumF]
theorem sumF_cong {l : List Int} {f g : Int → Int} (h : ∀ x ∈ l, f x = g x) : sumF l f = sumF l g := by
  unfold sumF
  rw [List.map_congr_left h]
theorem eqvAll_nil (ds : List PyData) : PyData.eqvAll ds [] = decide (ds = []) := by
  cases ds <;> simp [PyData.eqvAll]
/-- a list and the empty list -/
theorem ev_eqNil {α : Type} {σ : L2.St} {H : Hp} {te : TE} {n : Nat} {Pd : α → V → Hp → Prop} {g : α → PyData} {ds : List α} (hd : ∀ d v H, Pd d v H → Dp K H v (g d)) (hn : ∀ d, Nice n (g d)) (h : Ev T te σ H (LL Pd ds)) (k : n ≤ 60) : Ev T (tOp (rEqD K) te (tLst tNil)) σ H (fun v _ => v = .bl (decide (ds = []))) := by
  refine (ev_eqD (d := .list (ds.map g)) (d' := .list []) (h.imp fun v H4 _ h => dp_LL (fun d v h => hd d v _ h) h) ev_nil (Nice.shaped (nice_list (nice_map fun x _ => hn x)) (by omega)) (by decide)).imp fun v _ _ e => ?_
  rw [e, eqv_list, eqvAll_nil]
  cases ds <;> simp
theorem dp_I {n : Int} {v : V} {H : Hp} (h : eqI n v H) : Dp K H v (.int n) := by
  rw [show v = .int n from h]
  exact .int n
theorem ev_din {σ : L2.St} {H : Hp} {i j : Nat} {d : Addr} {kvs : List (Key × V)} {rs : List Int} {into : Int → Arc} {r : Int} (hi : σ[i]? = some (some (.int r))) (hj : σ[j]? = some (some (.ref d))) (hd : H d = some (.dK kvs)) (hk : KVs K into rs kvs H) :
    Ev T (tDIn (tVar i) (tVar j)) σ H (fun v _ => v = .bl (decide (r ∈ rs))) := fun H1 e Q q => by
  refine ⟨_, hi, _, hj, d, valV kvs (Sum.inl r), rfl, .inl ⟨kvs, Sum.inl r, .inl (e.dK hd), rfl, rfl⟩, q _ H1 (Ex.refl _) ?_⟩
  by_cases h : r ∈ rs
  · obtain ⟨x, hx, _⟩ := kvs_some hk h
    rw [hx, decide_eq_true h]
    rfl
  · rw [kvs_none hk h, decide_eq_false h]
    rfl
theorem later_succ {C : List Int} {name root : Int} {into : Int → Arc} {arcs : List Arc} {i : Nat} {e : Arc} (h : arcs[i]? = some e) :
    later C name root into (arcs.take (i + 1)) = if toName C name e.a ≠ toName C name e.b then later C name root into (arcs.take i) ++ [drawn C name root into e] else later C name root into (arcs.take i) := by
  unfold later
  rw [List.take_add_one, h, List.filter_append, List.map_append]
  by_cases q : toName C name e.a ≠ toName C name e.b
  · rw [if_pos q]; simp [q]
  · rw [if_neg q]; simp [q]
theorem later_len {C : List Int} {name root : Int} {into : Int → Arc} {arcs : List Arc} : (later C name root into arcs).length ≤ arcs.length := by
  unfold later
  rw [List.length_map]
  exact List.length_filter_le _ _
theorem ring_two {rooms : List Int} {arcs : List Arc} {root name : Int} {into : Int → Arc} {C : List Int} (R : Ring rooms root into C) (hI : Into rooms arcs root into) (hn : name ∈ C) : (restOf C name rooms).length < rooms.length := by
  have hs := R.sub _ hn
  obtain ⟨j, hj⟩ := List.mem_iff_getElem?.mp hn
  have h1 := List.mem_of_getElem? (R.nx j name hj)
  have h2 := (hI name hs.1 hs.2).2.2.1
  unfold restOf
  exact List.length_filter_lt_length_iff_exists.mpr ⟨_, (R.sub _ h1).1, by simp [h1, h2]⟩
/-- the rooms done: the dict told of them -/
def ToldA (arcs : List Arc) (rs : List Int) (into : Int → Arc) : Prop := ∀ r ∈ rs, into r ∈ arcs ∧ (into r).b = r ∧ (into r).a ≠ r ∧ ∀ e ∈ arcs, e.b = r → e.a ≠ r → (into r).c ≤ e.c
theorem fn_never {X : Program} {w : World} {f : Addr} {fd : FuncData} {k : Nat} {ps : List Str} {sp : Sp} (h : ∀ vs H Q E, ¬ sp vs H Q E) : FnOk X w K mg base CX0 k f fd ps sp :=
  ⟨fun vs H Q E hs => (h _ _ _ _ hs).elim, fun A outer s H args us vs Q E _ _ _ _ hs => (h _ _ _ _ hs).elim⟩
theorem ok_least_tree {f c P0 : Addr} {fd : FuncData} (F : FunC K "least_tree" s_least_tree f c fd) (B : Tb T base mg "least_tree" c P0) (G : Bn mg) (hmg : mg "least_tree" = some (.ref f)) (hb : L2.Binds K fd ["rooms", "arcs", "root"] []) (D_ring_of : Dfn P w K mg base 1 "ring_of" ["into", "root"] (sp_ring_of T K)) :
    ∀ n, FnOk P w K mg base CX0 (n + 1) f fd ["rooms", "arcs", "root"] (sp_least_tree T K n) := by
  intro n
  induction n with
  | zero => exact fn_never fun vs H Q E ⟨_, _, _, _, _, _, _, _, _, _, h, _⟩ => Nat.not_lt_zero _ h
  | succ n ih =>
    have D_least_tree : Dfn P w K mg base (n + 1) "least_tree" ["rooms", "arcs", "root"] (sp_least_tree T K n) := ⟨f, fd, ih, hmg, F.kp, hb⟩
    refine F.ok sc_least_tree (fun vs H Q E h => ?_) (fun A outer s H vs Q E hr h => ?_)
    · obtain ⟨a, b, rooms, arcs, root, rfl, _⟩ := h
      rfl
    · obtain ⟨a, b, rooms, arcs, root, rfl, hT, hro, har, nd, hlen, hn, hal, hA, q⟩ := h
      have hu := hu_of hr
      refine ⟨_, (pss_cons (ps_par (i := 3) (j := 4) rfl sc_least_tree.nd rfl rfl (by decide) rfl rfl (pa_cons pe_int (pa_cons pe_dnewK pa_nil)) (by rfl))
      (pss_cons (ps_for PassesOwn.never rfl (k_list K (pv 0) rfl) (pg_name (i := 5) sc_least_tree.nd rfl (by first | exact Or.inl rfl | exact Or.inr rfl)) (pss_one (ps_if (pt_cmpR op_ne (pv 5) (pv 2) (nomark _)) (pss_cons (ps_setLc (i := 6) (own := [("arc", 7)]) rfl sc_least_tree.nd rfl rfl (sw_true rfl rfl rfl (by decide +kernel)) (k_list K (pv 1) rfl) (blkOk_by (own := [("arc", 7)]) (N := N_least_tree) (by show blkC _ (defScope s_least_tree) _ _ = true; decide +kernel)) (fun _ _ _ _ _ => (pg_name (i := 7) sc_least_tree.nd rfl (by first | exact Or.inl rfl | exact Or.inr rfl))) (fun _ _ _ _ _ => (pts_one (PW.pt (pw_and (pt_cmpR op_eq (pe_ix (k_ix_tup K rfl) (pv 7) pe_int (fun _ _ => rfl)) (pv 5) (nomark _)) (pw_and1 (pt_cmpR op_ne (pe_ix (k_ix_tup K rfl) (pv 7) pe_int (fun _ _ => rfl)) (pv 5) (nomark _))))))) (fun _ _ _ _ _ => (pv 7)))
      (pss_cons (ps_if (pt_cmpR (k_eqD K hr.units rfl) (pv 6) (pe_lst pa_nil) (nomark _)) (pss_one (ps_ret pe_non)) pss_nil)
      (pss_cons (ps_dput hu (pv 4) (pv 5) (pe_minKey B rfl rfl (by exact ⟨fun _ _ _ _ _ _ => rfl, rfl, rfl, rfl, rfl, by decide, by decide⟩) rfl hr rfl (by decide) (by rfl) G.min_ (pv 6)) rfl)
      (pss_one (ps_aug (i := 3) sc_least_tree.nd rfl (by first | exact Or.inl rfl | exact Or.inr rfl) (pe_ix (k_ix_tup K rfl) (pe_dget hu (pv 4) (pv 5) (fun _ _ => rfl)) pe_int (fun _ _ => rfl)) ip_add))))) pss_nil)))
      (pss_cons (ps_set (i := 8) sc_least_tree.nd rfl (by first | exact Or.inl rfl | exact Or.inr rfl) (pe_dfn D_ring_of (hr.mono (by omega)) (pa_cons (pv 4) (pa_cons (pv 2) pa_nil))))
      (pss_cons (ps_if (pt_cmpR (k_eqD K hr.units rfl) (pv 8) (pe_lst pa_nil) (nomark _)) (pss_one (ps_ret (pv 3))) pss_nil)
      (pss_cons (ps_asg (pe_tup (pa_cons (pe_callB (k_min K rfl rfl) (by rfl) G.min_ (by decide +kernel) (pa_cons (pv 8) pa_nil)) (pa_cons (pe_lst pa_nil) pa_nil))) (pg_two (K := K) (i := 9) (j := 10) rfl sc_least_tree.nd rfl rfl (by first | exact Or.inl rfl | exact Or.inr rfl) (by first | exact Or.inl rfl | exact Or.inr rfl) (by first | exact Or.inl rfl | exact Or.inr rfl) (by first | exact Or.inl rfl | exact Or.inr rfl)))
      (pss_cons (ps_for PassesOwn.never rfl (k_list K (pv 1) rfl) (pg_tup rfl (pgs_cons (pg_name (i := 11) sc_least_tree.nd rfl (by first | exact Or.inl rfl | exact Or.inr rfl)) (pgs_cons (pg_name (i := 12) sc_least_tree.nd rfl (by first | exact Or.inl rfl | exact Or.inr rfl)) (pgs_cons (pg_name (i := 13) sc_least_tree.nd rfl (by first | exact Or.inl rfl | exact Or.inr rfl)) pgs_nil)))) (pss_cons (ps_set (i := 14) sc_least_tree.nd rfl (by first | exact Or.inl rfl | exact Or.inr rfl) (pe_ifExp (pt_cmpR (k_in K rfl) (pv 11) (pv 8) rfl) (pv 9) (pv 11)))
      (pss_cons (ps_set (i := 15) sc_least_tree.nd rfl (by first | exact Or.inl rfl | exact Or.inr rfl) (pe_ifExp (pt_cmpR (k_in K rfl) (pv 12) (pv 8) rfl) (pv 9) (pv 12)))
      (pss_one (ps_if (pt_cmpR op_ne (pv 14) (pv 15) (nomark _)) (pss_one (ps_expr (pe_bm PySem.F.plainAttrs_list PySem.F.slot_list_append PySem.F.type_list_append mt_append (pv 10) (pa_cons (pe_tup (pa_cons (pv 14) (pa_cons (pv 15) (pa_cons (pe_ifExp (pt_cmp (pc_din hu (pv 12) (pv 4))) (pe_op op_sub (pv 13) (pe_ix (k_ix_tup K rfl) (pe_dget hu (pv 4) (pv 12) (fun _ _ => rfl)) pe_int (fun _ _ => rfl))) (pv 13)) pa_nil)))) pa_nil)))) pss_nil)))))
      (pss_cons (ps_setLc (i := 16) (own := [("room", 5)]) rfl sc_least_tree.nd rfl rfl (sw_true rfl rfl rfl (by decide +kernel)) (k_list K (pv 0) rfl) (blkOk_by (own := [("room", 5)]) (N := N_least_tree) (by show blkC _ (defScope s_least_tree) _ _ = true; decide +kernel)) (fun _ _ _ _ _ => (pg_name (i := 5) sc_least_tree.nd rfl (by first | exact Or.inl rfl | exact Or.inr rfl))) (fun _ _ _ _ _ => (pts_one (PW.pt (pw_or (pt_cmpR (k_notIn K rfl) (pv 5) (pv 8) rfl) (pw_or1 (pt_cmpR op_eq (pv 5) (pv 9) (nomark _))))))) (fun _ _ _ _ _ => (pv 5)))
      (pss_cons (ps_set (i := 17) sc_least_tree.nd rfl (by first | exact Or.inl rfl | exact Or.inr rfl) (pe_dfn D_least_tree (hr.mono (by omega)) (pa_cons (pv 16) (pa_cons (pv 10) (pa_cons (pv 2) pa_nil)))))
      (pss_one (ps_ret (pe_ifExp (pt_cmpR op_notN (pv 17) pe_non (nomark _)) (pe_op op_add (pv 3) (pv 17)) pe_non))))))))))), ?_⟩
      obtain ⟨_, rl, era, hra, rp⟩ := hro
      cases era
      obtain rfl : rl = rooms.map V.int := paired_map rp
      have sA : ∀ e, Stb (AV K e) := AV.stb
      -- total, into = 0, {}
      refine fun d nd0 => ⟨_, _, rfl, ?_⟩
      have E0' : Ex T H (upd H d (.dK [])) := Ex.new nd0
      refine ⟨_, rfl, a, rfl, ⟨_, .of (E0'.lst hra)⟩, for_list (xs := rooms.map V.int) (fun i σ H' => ∃ x5 x6 x7 kvs into, σ = [some (.ref a), some (.ref b), some (.int root), some (.int (sumF ((rooms.take i).filter fun r => decide (r ≠ root)) fun r => (into r).c)), some (.ref d), x5, x6, x7, none, none, none, none, none, none, none, none, none, none] ∧
        Ex T H H' ∧ H' d = some (.dK kvs) ∧ KVs K into ((rooms.take i).filter fun r => decide (r ≠ root)) kvs H' ∧ ToldA arcs ((rooms.take i).filter fun r => decide (r ≠ root)) into)
        ⟨none, none, none, [], fun _ => ⟨0, 0, 0⟩, rfl, E0', upd_same, .nil, fun r h => by cases h⟩ (fun i σ H' _ ⟨_, _, _, _, _, _, e, _⟩ => .of (e.lst hra)) ?_ ?_⟩
      · rintro i x σ H1 hi ⟨x5, x6, x7, kvs, into, rfl, e1, hd1, hk1, hto⟩
        obtain ⟨room, hroom, rfl⟩ : ∃ room, rooms[i]? = some room ∧ x = V.int room := by
          rw [List.getElem?_map] at hi
          cases hq : rooms[i]? with
          | none => rw [hq] at hi; cases hi
          | some room => rw [hq] at hi; exact ⟨room, rfl, (Option.some.inj hi).symm⟩
        have mroom := List.mem_of_getElem? hroom
        have ft := filter_take_succ (fun r => decide (r ≠ root)) hroom
        refine s_if (T := T) (et_test (ev_neS (x := .int room) (y := .int root) rfl (ev_var (i := 5) rfl) (ev_var (i := 2) rfl))) (fun hne H2 e2 => ?_) (fun hne H2 e2 => ?_)
        · simp at hne
          rw [if_pos (by simpa using hne)] at ft
          have E2 := e1.trans e2
          refine q_asg (T := T) (ev_lcL (β := Unit) (Ps := AV K) (Pe := AV K) (ds := arcs) (fun e => decide (e.b = room) && !decide (e.a = room)) (ev_varL (i := 1) sA rfl (har.ex sA E2)) sA (by omega) (fun x => rfl) (fun e x H3 me e3 hx => ?_) (fun e x H3 me e3 hx _ => ?_)) fun v6 H3 e3 hv6 => ?_
          · have ix : ∀ (k : Nat) (z : Int) H4, Ex T H3 H4 → e.l[k]? = some z → Ev T (tOp (rIxT K) (tVar 7) (tC (.int (k : Int)))) (([some (V.ref a), some (V.ref b), some (V.int root), some (.int (sumF ((rooms.take i).filter fun r => decide (r ≠ root)) fun r => (into r).c)), some (.ref d), some (.int room), x6, some x, none, none, none, none, none, none, none, none, none, none] : L2.St)) H4 (fun v _ => v = .int z) := fun k z H4 e4 hz =>
              ev_ixT (P := eqI) (i := k) (fun _ => stb_eqI) ((ev_varP (AV.stb e) rfl ((AV.stb e).ex hx e4)).imp fun v H5 _ h => IT.tt h) ev_c hz
            refine et_and (et_is (et_test (ev_eqS (x := .int e.b) (y := .int room) rfl (ix 1 e.b H3 (Ex.refl _) rfl) (ev_var (i := 5) rfl))) (by simp)) fun _ => et_is (et_test (ev_neS (x := .int e.a) (y := .int room) rfl (ix 0 e.a H3 (Ex.refl _) rfl) (ev_var (i := 5) rfl))) (by simp)
          · exact ev_varP (AV.stb e) rfl hx
          have E3 := E2.trans e3
          have hsome : ∀ e, e ∈ arcs.filter (fun e => decide (e.b = room) && !decide (e.a = room)) ↔ e ∈ arcs ∧ e.b = room ∧ e.a ≠ room := fun e => by simp
          refine q_if (T := T) (et_test (ev_eqNil (Pd := AV K) (g := fun e => dI e.l) (n := 1) (fun _ _ _ h => dp_IT h) (fun _ => nice_dI) (ev_varL (i := 6) sA rfl hv6) (by omega))) (fun h0 H4 e4 => ?_) (fun h0 H4 e4 => ?_)
          · -- nothing leads there
            refine s_ret (T := T) ev_c fun v H5 e5 hv => ?_
            subst hv
            refine q _ _ ((E3.trans e4).trans e5) ⟨none, rfl, least_lone mroom hne fun e he hb => ?_⟩
            have h0' := of_decide_eq_true h0
            by_cases ha : e.a = room
            · rw [ha, ← hb, hb]
            · have := (hsome e).mpr ⟨he, hb, ha⟩
              rw [h0'] at this
              cases this
          have hne0 : arcs.filter (fun e => decide (e.b = room) && !decide (e.a = room)) ≠ [] := of_decide_eq_false h0
          have E4 := E3.trans e4
          have rno : room ∉ (rooms.take i).filter fun r => decide (r ≠ root) := fun z => by
            have z1 := (List.mem_filter.mp z).1
            obtain ⟨j, hj, hje⟩ := List.mem_iff_getElem.mp z1
            rw [List.length_take] at hj
            rw [List.getElem_take] at hje
            have h2 := (List.getElem?_inj (by omega) nd).mp ((List.getElem?_eq_getElem (by omega)).trans (by rw [hje, ← hroom]) : rooms[j]? = rooms[i]?)
            omega
          -- into[room] = min(some, key=..)
          refine Ev.go (ev_minK (P := AV K) (g := fun e => e.c) sA (fun e v H h => ?_) (E4.tabs hT) (ev_varL (i := 6) sA rfl (hv6.ex sA e4)) hne0) fun v H5 e5 hv => ?_
          · obtain ⟨t, rfl, hs⟩ := h
            exact ⟨t, _, rfl, hs, rfl⟩
          obtain ⟨e, he, av, hmin⟩ := hv
          have hd5 : H5 d = some (.dK kvs) := ((e2.trans e3).trans (e4.trans e5)).dK hd1
          have hk5 : KVs K into _ kvs H5 := hk1.tk ((e2.trans e3).trans (e4.trans e5)).tk
          have hnew := putK_new v (kvs_none hk5 rno)
          have hz : kvs.length < sizeLine := by
            have := Paired.length hk5
            have h2 := List.length_filter_le (fun r => decide (r ≠ root)) (rooms.take i)
            rw [List.length_take] at h2
            exact Nat.lt_of_le_of_lt (by omega : kvs.length ≤ 1000) (by decide)
          obtain ⟨m1, m2, m3⟩ := (hsome e).mp he
          refine ⟨_, rfl, _, rfl, d, _, rfl, DPut.k (k := Sum.inl room) hd5 hz, ?_⟩
          rw [hnew]
          have tk6 : Tk H5 (upd H5 d (.dK (kvs ++ [(Sum.inl room, v)]))) := Tk.updD hd5
          have hk6 : KVs K (fun r => if r = room then e else into r) (((rooms.take i).filter fun r => decide (r ≠ root)) ++ [room]) (kvs ++ [(Sum.inl room, v)]) (upd H5 d (.dK (kvs ++ [(Sum.inl room, v)]))) := by
            refine Paired.snoc ((hk5.tk tk6).cong fun r hr => ?_) ⟨rfl, ?_⟩
            · show into r = if r = room then e else into r
              rw [if_neg (fun z => rno (by rw [← z]; exact hr))]
            · show AV K (if room = room then e else into room) v _
              rw [if_pos rfl]
              exact AV.stb e _ _ _ av tk6
          have E6 : Ex T H (upd H5 d (.dK (kvs ++ [(Sum.inl room, v)]))) := (E4.trans e5).mutD nd0 hd5
          -- total += into[room][2]
          refine ⟨_, rfl, Ev.go (ev_third (T := T) (ev_get (i := 4) (j := 5) (r := room) rfl rfl upd_same hk6 (by simp))) fun v7 H7 e7 hv7 => ?_⟩
          subst hv7
          refine ⟨_, _, rfl, rfl, ?_⟩
          refine ⟨some (.int room), some v6, x7, kvs ++ [(Sum.inl room, v)], fun r => if r = room then e else into r, ?_, E6.trans e7, e7.dK upd_same, ?_, ?_⟩
          · rw [ft, sumF_snoc, sumF_cong (f := fun r => (if r = room then e else into r).c) (g := fun r => (into r).c) fun r hr => by rw [if_neg (fun z => rno (by rw [← z]; exact hr))]]
            rfl
          · rw [ft]
            exact hk6.tk e7.tk
          · rw [ft]
            intro r hr
            show (if r = room then e else into r) ∈ arcs ∧ (if r = room then e else into r).b = r ∧ (if r = room then e else into r).a ≠ r ∧ ∀ e' ∈ arcs, e'.b = r → e'.a ≠ r → (if r = room then e else into r).c ≤ e'.c
            rcases List.mem_append.mp hr with hr | hr
            · rw [if_neg (fun z => rno (by rw [← z]; exact hr))]
              exact hto r hr
            · have hr' : r = room := by simpa using hr
              subst hr'
              rw [if_pos rfl]
              exact ⟨m1, m2, m3, fun e' h1 h2 h3 => hmin e' ((hsome e').mpr ⟨h1, h2, h3⟩)⟩
        · simp at hne
          rw [if_neg (by simpa using hne)] at ft
          refine ⟨some (.int room), x6, x7, kvs, into, ?_, e1.trans e2, e2.dK hd1, ?_, ?_⟩
          · rw [ft]; rfl
          · rw [ft]; exact hk1.tk e2.tk
          · rw [ft]; exact hto
      · rintro σ H1 ⟨x5, x6, x7, kvs, into, rfl, e1, hd1, hk1, hto⟩
        rw [List.length_map] at hk1 hto ⊢
        rw [List.take_length] at hk1 hto ⊢
        have mrs : ∀ r, r ∈ rooms.filter (fun r => decide (r ≠ root)) ↔ r ∈ rooms ∧ r ≠ root := fun r => by simp
        have hI : Into rooms arcs root into := fun r h1 h2 => hto r ((mrs r).mpr ⟨h1, h2⟩)
        have lrs : (rooms.filter fun r => decide (r ≠ root)).length ≤ rooms.length := List.length_filter_le _ _
        have hC : tcost rooms root (fun r => (into r).c) = sumF (rooms.filter fun r => decide (r ≠ root)) fun r => (into r).c := rfl
        rw [← hC]
        -- ring = ring_of(into, root)
        refine q_asg (T := T) (ev_dfn (P := fun v H' => ∃ C : List Int, LL eqI C v H' ∧ RingTold (rooms.filter fun r => decide (r ≠ root)) (fun r => (into r).a) root C) (ea_consV (ev_var (i := 4) rfl) (ea_consV (ev_var (i := 2) rfl) ea_nil)) fun vs H2 e2 ev Q q => ?_) fun v8 H2 e2 hv8 => ?_
        · subst ev
          refine ⟨d, root, kvs, _, into, rfl, e2.dK hd1, hk1.tk e2.tk, nd.filter _, fun z => ((mrs _).mp z).2 rfl, by omega, fun r hr => ?_, q⟩
          have := (hA _ (hto r hr).1).1
          by_cases z : (into r).a = root
          · exact .inr z
          · exact .inl ((mrs _).mpr ⟨this, z⟩)
        obtain ⟨C, hC8, hring⟩ := hv8
        have E2 := e1.trans e2
        refine q_if (T := T) (et_test (ev_eqNil (Pd := eqI) (g := fun n => .int n) (n := 0) (fun _ _ _ h => dp_I h) (fun _ => nice_int) (ev_varL (i := 8) (fun _ => stb_eqI) rfl hC8) (by omega))) (fun h0 H3 e3 => ?_) (fun h0 H3 e3 => ?_)
        · -- no ring
          refine s_ret (T := T) (ev_var (i := 3) rfl) fun v H4 e4 hv => ?_
          subst hv
          have h0' : C = [] := of_decide_eq_true h0
          rcases hring with ⟨_, hm⟩ | ⟨hne, _⟩
          · exact q _ _ ((E2.trans e3).trans e4) ⟨some _, rfl, least_done nd hA hI (rooms.filter fun r => decide (r ≠ root)).length fun r h1 h2 => hm r ((mrs r).mpr ⟨h1, h2⟩)⟩
          · exact absurd h0' hne
        have hCn : C ≠ [] := of_decide_eq_false h0
        have E3 := E2.trans e3
        obtain ⟨R⟩ : Nonempty (Ring rooms root into C) := by
          rcases hring with ⟨hz, _⟩ | ⟨h1, h2, h3, h4⟩
          · exact absurd hz hCn
          · exact ⟨⟨h2, h1, fun x hx => (mrs x).mp (h3 x hx), h4⟩⟩
        -- name, later = (min(ring), [])
        have hC3 := hC8.ex (fun _ => stb_eqI) e3
        obtain ⟨ca, cl, rfl, hca, cp⟩ := hC3
        obtain rfl : cl = C.map V.int := paired_map cp
        refine ⟨_, rfl, ca, C, rfl, .of hca, List.length_pos_iff.mpr hCn, fun name mn hmin => ?_⟩
        refine ⟨Nat.zero_le _, fun l nl => ⟨by show 2 ≤ sizeLine; decide, fun t nt => ?_⟩⟩
        refine ⟨t, _, rfl, .of upd_same, rfl, _, _, rfl, _, _, rfl, rfl, ?_⟩
        have E5 : Ex T H3 (upd (upd H3 l (.lst [])) t (.tup [.int name, .ref l])) := (Ex.new nl).trans (Ex.new nt)
        have hd3 := (e2.trans e3).dK hd1
        have hk3 : KVs K into _ kvs H3 := hk1.tk (e2.trans e3).tk
        have hlt : (upd (upd H3 l (.lst [])) t (.tup [.int name, .ref l])) l = some (.lst []) := by
          rw [upd_ne (fun z => by rw [← z, upd_same] at nt; cases nt), upd_same]
        obtain ⟨_, bl, eb, hbl, bp⟩ := har
        cases eb
        have hbl3 := E3.lst hbl
        -- the arcs, the ring drawn together
        refine ⟨_, rfl, b, rfl, ⟨_, .of (E5.lst hbl3)⟩, for_list (xs := bl) (fun i σ H' => ∃ x11 x12 x13 x14 x15 ys, σ = [some (.ref a), some (.ref b), some (.int root), some (.int (tcost rooms root fun r => (into r).c)), some (.ref d), x5, x6, x7, some (.ref ca), some (.int name), some (.ref l), x11, x12, x13, x14, x15, none, none] ∧
          Ex T H3 H' ∧ H' l = some (.lst ys) ∧ Paired (fun v e => AV K e v H') ys (later C name root into (arcs.take i)))
          ⟨none, none, none, none, none, [], rfl, E5, hlt, .nil⟩ (fun i σ H' _ ⟨_, _, _, _, _, _, _, e, _⟩ => .of (e.lst hbl3)) ?_ ?_⟩
        · rintro i x σ H5 hi ⟨x11, x12, x13, x14, x15, ys, rfl, e5, hl5, hp5⟩
          obtain ⟨e, he, ae⟩ := paired_get bp hi
          have me := List.mem_of_getElem? he
          obtain ⟨t, rfl, hs⟩ := (AV.stb e).ex ae (E3.trans e5)
          refine ⟨t, _, rfl, hs, rfl, _, _, rfl, _, _, rfl, _, _, rfl, rfl, ?_⟩
          have lC : ∀ {H'}, Ex T H3 H' → LL eqI C (.ref ca) H' := fun e => ⟨ca, _, rfl, e.lst hca, cp⟩
          refine q_asg (T := T) (ev_toName (i := 11) (j := 8) (k := 9) rfl rfl (lC e5) rfl) fun v14 H6 e6 hv14 => ?_
          subst hv14
          refine q_asg (T := T) (ev_toName (i := 12) (j := 8) (k := 9) rfl rfl (lC (e5.trans e6)) rfl) fun v15 H7 e7 hv15 => ?_
          subst hv15
          have e57 := (e5.trans e6).trans e7
          have hl7 := (e6.trans e7).lst hl5
          have hp7 := paired_mono (fun v d q => (AV.stb d).ex q (e6.trans e7)) hp5
          have hsc := later_succ (C := C) (name := name) (root := root) (into := into) he
          refine s_if (T := T) (et_test (ev_neS (x := .int (toName C name e.a)) (y := .int (toName C name e.b)) rfl (ev_var (i := 14) rfl) (ev_var (i := 15) rfl))) (fun hne H8 e8 => ?_) (fun hne H8 e8 => ?_)
          · have hne' : toName C name e.a ≠ toName C name e.b := by simpa using hne
            rw [if_pos hne'] at hsc
            have hl8 := e8.lst hl7
            have hyl := Paired.length hp7
            have hll := later_len (C := C) (name := name) (root := root) (into := into) (arcs := arcs.take i)
            rw [List.length_take] at hll
            have e58 := e57.trans e8
            refine s_app (T := T) (i := 10) rfl hl8 (by omega) (ev_tupI (K := K) (ns := (drawn C name root into e).l) (ea_consV (ev_var (i := 14) rfl) (ea_consV (ev_var (i := 15) rfl) (ea_consV (x := .int (if e.b = root then e.c else e.c - (into e.b).c)) (ev_if (b := decide (e.b ≠ root)) (et_is (et_B (ev_din (i := 12) (j := 4) rfl rfl (e58.dK hd3) (hk3.tk e58.tk))) ?_) (fun hb => ?_) (fun hb => ?_)) ea_nil))) (by show 3 ≤ 40000; omega)) fun v H9 e9 hv9 => ?_
            · have := (hA e me).2
              simp [this]
            · have hb' : e.b ≠ root := by simpa using hb
              have hbm := (mrs _).mpr ⟨(hA e me).2, hb'⟩
              rw [if_neg hb']
              refine (ev_I0 (g := fun i j => V.int (i - j)) (i := e.c) (j := (into e.b).c) (ev_var (i := 13) rfl) (ev_third (ev_get (i := 4) (j := 12) rfl rfl (e58.dK hd3) (hk3.tk e58.tk) hbm)))
            · have hb' : e.b = root := by simpa using hb
              rw [if_pos hb']
              exact ev_var (i := 13) rfl
            · have hl9 := e9.lst hl8
              refine ⟨_, _, _, _, _, ys ++ [v], rfl, (e58.trans e9).mut nl hl9, upd_same, ?_⟩
              rw [hsc]
              have tk : Tk H9 (upd H9 l (.lst (ys ++ [v]))) := Tk.upd hl9
              exact Paired.snoc (paired_mono (fun v d q => AV.stb d _ _ _ ((AV.stb d).ex q (e8.trans e9)) tk) hp7) (AV.stb _ _ _ _ hv9 tk)
          · have hne' : ¬ toName C name e.a ≠ toName C name e.b := by simpa using hne
            rw [if_neg hne'] at hsc
            refine ⟨_, _, _, _, _, ys, rfl, e57.trans e8, e8.lst hl7, ?_⟩
            rw [hsc]
            exact paired_mono (fun v d q => (AV.stb d).ex q e8) hp7
        · rintro σ H5 ⟨x11, x12, x13, x14, x15, ys, rfl, e5, hl5, hp5⟩
          rw [Paired.length bp, List.take_length] at hp5
          have lC : ∀ {H'}, Ex T H3 H' → LL eqI C (.ref ca) H' := fun e => ⟨ca, _, rfl, e.lst hca, cp⟩
          -- rest
          refine q_asg (T := T) (ev_lcL (β := Unit) (Ps := eqI) (Pe := eqI) (ds := rooms) (fun r => decide (r ∉ C) || decide (r = name)) (ev_varL (i := 0) (fun _ => stb_eqI) rfl ⟨a, _, rfl, (E3.trans e5).lst hra, rp⟩) (fun _ => stb_eqI) (by omega) (fun x => rfl) (fun r x H6 mr e6 hx => ?_) (fun r x H6 mr e6 hx _ => ?_)) fun v16 H6 e6 hv16 => ?_
          · obtain rfl : x = .int r := hx
            exact et_or (et_is (et_test (ev_inL (neg := true) (ev_var (i := 5) rfl) (ev_varL (i := 8) (fun _ => stb_eqI) rfl (lC (e5.trans e6))))) (by simp)) fun _ => et_is (et_test (ev_eqS (x := .int r) (y := .int name) rfl (ev_var (i := 5) rfl) (ev_var (i := 9) rfl))) (by simp)
          · exact ev_varP stb_eqI rfl hx
          -- found = least_tree(rest, later, root)
          have E6 := E3.trans (e5.trans e6)
          have hl6 := e6.lst hl5
          have hp6 := paired_mono (fun v d q => (AV.stb d).ex q e6) hp5
          have hrest : (restOf C name rooms).length < rooms.length := ring_two R hI mn
          refine q_asg (T := T) (ev_dfn (P := fun v _ => ∃ o, v = optV o ∧ Least (restOf C name rooms) (later C name root into arcs) root o) (ea_consV (ev_var (i := 16) rfl) (ea_consV (ev_var (i := 10) rfl) (ea_consV (ev_var (i := 2) rfl) ea_nil))) fun vs H7 e7 ev Q q => ?_) fun v17 H7 e7 hv17 => ?_
          · subst ev
            obtain ⟨ra, rl, rfl, hra2, rp2⟩ := hv16
            refine ⟨ra, l, restOf C name rooms, later C name root into arcs, root, rfl, (E6.trans e7).tabs hT, ⟨ra, rl, rfl, e7.lst hra2, rp2⟩, ⟨l, ys, rfl, e7.lst hl6, paired_mono (fun v d q => (AV.stb d).ex q e7) hp6⟩, nd.filter _, by omega, by omega, ?_, later_in hA (fun x hx => (R.sub x hx).1) mn, q⟩
            have := later_len (C := C) (name := name) (root := root) (into := into) (arcs := arcs)
            omega
          obtain ⟨o, rfl, ho⟩ := hv17
          have fin := least_ring nd hA hI R mn ho
          refine s_ret (T := T) (P := fun v _ => v = optV (o.map fun c => tcost rooms root (fun r => (into r).c) + c)) ?_ fun v H8 e8 hv => q _ _ ((E6.trans e7).trans e8) ⟨_, hv, fin⟩
          refine ev_if (b := !decide (optV o = V.non)) (et_test (ev_op (ev_var (i := 17) rfl) stb_eq ev_c fun x y H1 _ hx hy Q q => ⟨hy, q _ _ (Ex.refl _) (by rw [hx])⟩)) (fun hb => ?_) (fun hb => ?_)
          · cases o with
            | none => simp [optV] at hb
            | some c => exact ev_I0 (g := fun i j => V.int (i + j)) (ev_var (i := 3) rfl) (ev_var (i := 17) rfl)
          · cases o with
            | none => exact ev_c
            | some c => simp [optV] at hb
end
end WI
set_option maxRecDepth 100000
/-! costs_to, fewest_changes, lots_of, change_lots. -/
namespace WI
open PySem PySem.Spec L2 LamX RZ StX
section
variable {T : LTab} {P : Program} {w : World} {K : PySem.W.Frag} {mg : Str → Option Value} {base : Heap}
theorem ea_consE {σ : L2.St} {H : Hp} {ta : TE} {tr : TA} {Pa : V → Hp → Prop} {Pr : List V → Hp → Prop} (h : Ev T ta σ H Pa) (sa : ∀ v H H', Ex T H H' → Pa v H → Pa v H') (hr : EvA T tr σ H Pr) : EvA T (tCons ta tr) σ H (fun vs H' => ∃ x r, vs = x :: r ∧ Pa x H' ∧ Pr r H') := fun H1 e _ q =>
  h H1 e _ fun x H2 e2 p2 => hr H2 (e.trans e2) _ fun r H3 e3 p3 => q _ H3 (e2.trans e3) ⟨x, r, rfl, sa _ _ _ e3 p2, p3⟩
/-- a growing list of things -/
def Atl {α : Type} (T : LTab) (Pd : α → V → Hp → Prop) (H0 : Hp) (p : Addr) (ds : List α) (H : Hp) : Prop := Ex T H0 H ∧ H0 p = none ∧ ∃ ys, H p = some (.lst ys) ∧ Paired (fun v d => Pd d v H) ys ds
theorem Atl.ll {α : Type} {Pd : α → V → Hp → Prop} {H0 H : Hp} {p : Addr} {ds : List α} (a : Atl T Pd H0 p ds H) : LL Pd ds (.ref p) H := by
  obtain ⟨_, _, ys, h, hp⟩ := a
  exact ⟨p, ys, rfl, h, hp⟩
theorem Atl.ex {α : Type} {Pd : α → V → Hp → Prop} (sP : ∀ d, Stb (Pd d)) {H0 H H' : Hp} {p : Addr} {ds : List α} (a : Atl T Pd H0 p ds H) (e : Ex T H H') : Atl T Pd H0 p ds H' := by
  obtain ⟨a1, a2, ys, h, hp⟩ := a
  exact ⟨a1.trans e, a2, ys, e.lst h, paired_mono (fun v d q => (sP d).ex q e) hp⟩
/-- l.append(e), the last statement -/
theorem s_appL {α : Type} {Pd : α → V → Hp → Prop} (sP : ∀ d, Stb (Pd d)) {H0 H : Hp} {p : Addr} {ds : List α} {d : α} {σ : L2.St} {te : TE} {D : Ends} {i : Nat} (a : Atl T Pd H0 p ds H) (hs : σ[i]? = some (some (.ref p))) (hz : ds.length ≤ 50000) (h : Ev T te σ H (Pd d))
    (k : ∀ H1, Atl T Pd H0 p (ds ++ [d]) H1 → Tk H H1 → D.nx σ H1) : tDrop (tBM K "list" rAppend (tVar i) (tCons te tNil)) D σ H := by
  obtain ⟨a1, a2, ys, hy, hp⟩ := a
  have hl := Paired.length hp
  refine s_app hs hy (by omega) h fun v H1 e pv => ?_
  have tk : Tk H1 (upd H1 p (.lst (ys ++ [v]))) := Tk.upd (e.lst hy)
  exact k _ ⟨(a1.trans e).mut a2 (e.lst hy), a2, ys ++ [v], upd_same, Paired.snoc (paired_mono (fun v d q => sP d _ _ _ ((sP d).ex q e) tk) hp) (sP d _ _ _ pv tk)⟩ (e.tk.trans tk)
def sp_costs_to (T : LTab) (K : PySem.W.Frag) : Sp := fun vs H Q _ => ∃ (v : V) (many : Int) (ws : List Wall), vs = [v] ∧ Tabs T H ∧ YT K many ws v H ∧ YOk many ws ∧ Pure T (fun v _ => ∃ o, v = optV o ∧ Fewest ws o) H Q
theorem arcs_len (ws : List Wall) : (arcsOf ws).length = 2 * ws.length := by
  unfold arcsOf
  induction ws with
  | nil => rfl
  | cons w ws ih =>
    rw [List.flatMap_cons, List.length_append, ih]
    simp only [List.length_cons, List.length_nil]
    omega
theorem ok_costs_to {f : Addr} {fd : FuncData} (F : Fun K "costs_to" "costs_to" s_costs_to f fd) (G : Bn mg) (D_sides_of : Dfn P w K mg base 1 "sides_of" ["wall"] (sp_sides_of T K)) (D_busy : Dfn P w K mg base 1 "busy" ["yard"] (sp_busy T K))
    (D_least_tree : Dfn P w K mg base 27 "least_tree" ["rooms", "arcs", "root"] (sp_least_tree T K 26)) : FnOk P w K mg base CX0 28 f fd ["yard"] (sp_costs_to T K) := by
  refine F.ok sc_costs_to (fun vs H Q E h => ?_) (fun cdv A outer s H vs Q E hr h => ?_)
  · obtain ⟨v, many, ws, rfl, _⟩ := h
    rfl
  · obtain ⟨v, many, ws, rfl, hT, hv, ho, q⟩ := h
    refine ⟨_, (pss_cons (ps_set (i := 1) sc_costs_to.nd rfl (by first | exact Or.inl rfl | exact Or.inr rfl) (pe_lst pa_nil))
      (pss_cons (ps_for PassesOwn.never rfl (k_tup K (pe_ix (k_ix_tup K rfl) (pv 0) pe_int (fun _ _ => rfl)) rfl) (pg_name (i := 2) sc_costs_to.nd rfl (by first | exact Or.inl rfl | exact Or.inr rfl)) (pss_one (ps_for PassesOwn.never rfl (k_tup K (pe_slice (k_sl_tup K rfl) (pv 2) po_none (po_some pe_int)) rfl) (pg_name (i := 3) sc_costs_to.nd rfl (by first | exact Or.inl rfl | exact Or.inr rfl)) (pss_one (ps_expr (pe_bm PySem.F.plainAttrs_list PySem.F.slot_list_append PySem.F.type_list_append mt_append (pv 1) (pa_cons (pe_tup (pa_cons (pv 3) (pa_cons (pe_op op_sub (pe_op op_add (pe_ix (k_ix_tup K rfl) (pv 2) pe_int (fun _ _ => rfl)) (pe_ix (k_ix_tup K rfl) (pv 2) pe_int (fun _ _ => rfl))) (pv 3)) (pa_cons (pe_ifExp (pt_cmpR (k_in K rfl) (pv 3) (pe_dfn D_sides_of (hr.mono (by decide)) (pa_cons (pv 2) pa_nil)) rfl) pe_int pe_int) pa_nil)))) pa_nil)))))))
      (pss_one (ps_ret (pe_dfn D_least_tree (hr.mono (by decide)) (pa_cons (pe_dfn D_busy (hr.mono (by decide)) (pa_cons (pv 0) pa_nil)) (pa_cons (pv 1) (pa_cons pe_int pa_nil)))))))), ?_⟩
    have y0 : ∀ {σ H1} , σ[0]? = some (some v) → Ex T H H1 → Ev T (tVar 0) σ H1 (YT K many ws) := fun h e => ev_varP YT.stb h (YT.stb.ex hv e)
    have sA : ∀ e, Stb (AV K e) := AV.stb
    have h12 := ho.wl
    refine ⟨Nat.zero_le _, fun p np => ?_⟩
    have A0 : Atl T (AV K) H p (arcsOf (ws.take 0)) (upd H p (.lst [])) := ⟨Ex.new np, np, [], upd_same, .nil⟩
    refine (ev_yard1 (K := K) (y0 (σ := [some v, some (.ref p), none, none]) rfl A0.1) ev_c).go fun x H1 e1 ⟨a, xs, ex, hs, hp⟩ => ?_
    subst ex
    have A1 := A0.ex sA e1
    have hlen := Paired.length hp
    refine ⟨a, rfl, ⟨_, hs⟩, for_tup (K := K) (xs := xs) (fun i σ H' => ∃ x2 x3, σ = [some v, some (.ref p), x2, x3] ∧ Atl T (AV K) H p (arcsOf (ws.take i)) H' ∧ Tk H1 H') ⟨_, _, rfl, A1, Tk.refl _⟩ (fun i σ H' _ ⟨_, _, _, _, k⟩ => k.sqt hs) ?_ ?_⟩
    · rintro i x σ H' hi ⟨x2, x3, rfl, A2, k2⟩
      obtain ⟨wl, hw, px⟩ := paired_get hp hi
      have il := (List.getElem?_eq_some_iff.mp hw).1
      have how := ho.wo wl (List.mem_of_getElem? hw)
      refine (ev_sl (T := T) (K := K) (ns := wl.l) (ms := [wl.lo, wl.hi]) (ev_varP (i := 2) (σ := [some v, some (.ref p), some x, x3]) (WV.stb wl) rfl (WV.stb wl _ _ _ px k2)) eo_no (eo_part ev_c) rfl).go fun y H2 e2 ⟨b, eb, hb⟩ => ?_
      subst eb
      refine ⟨b, rfl, ⟨_, hb⟩, for_tup (K := K) (xs := [wl.lo, wl.hi].map V.int) (fun j σ H'' => ∃ x3, σ = [some v, some (.ref p), some x, x3] ∧ Atl T (AV K) H p (arcsOf (ws.take i) ++ ([wl.lo, wl.hi].take j).map (arcOf wl)) H'' ∧ Tk H2 H'') ⟨_, rfl, by simpa using A2.ex sA e2, Tk.refl _⟩ (fun j σ H' _ ⟨_, _, _, k⟩ => k.sqt hb) ?_ ?_⟩
      · rintro j y σ H3 hj ⟨x3, rfl, A3, k3⟩
        obtain ⟨s, hs', rfl⟩ : ∃ s, [wl.lo, wl.hi][j]? = some s ∧ y = V.int s := by
          rw [List.getElem?_map] at hj
          cases hq : [wl.lo, wl.hi][j]? with
          | none => rw [hq] at hj; cases hj
          | some s => rw [hq] at hj; exact ⟨s, rfl, (Option.some.inj hj).symm⟩
        have wv : ∀ {H4}, Ex T H3 H4 → Ev T (tVar 2) [some v, some (.ref p), some x, some (.int s)] H4 (WV K wl) := fun e => ev_varP (WV.stb wl) rfl ((WV.stb wl).ex (WV.stb wl _ _ _ px (k2.trans (e2.tk.trans k3))) e)
        have ix : ∀ (k : Nat) (z : Int), wl.l[k]? = some z → Ev T (tOp (rIxT K) (tVar 2) (tC (.int (k : Int)))) [some v, some (.ref p), some x, some (.int s)] H3 (fun v _ => v = .int z) := fun k z hz =>
          ev_ixT (P := eqI) (i := k) (fun _ => stb_eqI) ((wv (Ex.refl _)).imp fun v H5 _ h => IT.tt h) ev_c hz
        have hz := arcs_len (ws.take i)
        rw [List.length_take] at hz
        have hz2 : ([wl.lo, wl.hi].take j).length ≤ 2 := by rw [List.length_take]; exact Nat.min_le_right _ _
        refine s_appL (α := Arc) (d := arcOf wl s) sA A3 rfl (by rw [List.length_append, List.length_map, hz]; omega) ?_ fun H4 A4 k4 => ?_
        · refine ev_tupI (K := K) (ns := (arcOf wl s).l) (ea_consV (ev_var (i := 3) rfl) (ea_consV (x := .int (wl.lo + wl.hi - s)) (ev_I0 (g := fun i j => V.int (i - j)) (ev_I0 (g := fun i j => V.int (i + j)) (ix 0 _ rfl) (ix 1 _ rfl)) (ev_var (i := 3) rfl))
            (ea_consV (x := .int (if s ∈ sides wl then 0 else 1)) (ev_if (et_test (ev_inT (neg := false) (ev_var (i := 3) rfl) (ev_sides_of (wv (Ex.refl _)) how))) (fun h => ?_) (fun h => ?_)) ea_nil))) (by show 3 ≤ 40000; omega)
          · have h' : s ∈ sides wl := by simpa using h
            rw [if_pos h']
            exact ev_c
          · have h' : s ∉ sides wl := by simpa using h
            rw [if_neg h']
            exact ev_c
        · refine ⟨_, rfl, ?_, k3.trans k4⟩
          rw [List.take_add_one, hs', List.map_append, ← List.append_assoc]
          exact A4
      · rintro σ H3 ⟨x3, rfl, A3, k3⟩
        refine ⟨_, _, rfl, ?_, k2.trans (e2.tk.trans k3)⟩
        have e : arcsOf (ws.take (i + 1)) = arcsOf (ws.take i) ++ ([wl.lo, wl.hi].take ([wl.lo, wl.hi].map V.int).length).map (arcOf wl) := by
          unfold arcsOf
          rw [List.take_add_one, hw, List.flatMap_append]
          simp
        rw [e]
        exact A3
    · rintro σ H' ⟨x2, x3, rfl, A2, k2⟩
      rw [hlen, List.take_length] at A2
      refine s_ret (T := T) (ev_dfn (P := fun v _ => ∃ o, v = optV o ∧ Fewest ws o) (ea_consE (ev_busy (y0 rfl A2.1) h12) (fun v H H' e ⟨B, hB, r⟩ => ⟨B, hB.ex (fun _ => stb_eqI) e, r⟩) (ea_consV (ev_var (i := 1) rfl) (ea_consV ev_c ea_nil))) fun vs H3 e3 ⟨x, r, ev, ⟨B, hB, nd, hBl, hBm⟩, er⟩ Q q => ?_) fun v H3 e3 hv => q _ _ (A2.1.trans e3) hv
      subst er
      obtain ⟨a', l', rfl, hB2, hp2⟩ := hB
      have A3 := A2.ex sA e3
      refine ⟨a', p, B, arcsOf ws, 0, ev, A3.1.tabs hT, ⟨a', l', rfl, hB2, hp2⟩, A3.ll, nd, by omega, by omega, by rw [arcs_len]; omega, arcs_in hBm, fun v H4 e4 ⟨o, e, hl⟩ => q v H4 e4 ⟨o, e, fewest_of ho.wo nd hBm hl⟩⟩
theorem ev_costs_to {σ : L2.St} {H : Hp} {ta : TE} {many : Int} {ws : List Wall} (hT : Tabs T H) (h : Ev T ta σ H (YT K many ws)) (ho : YOk many ws) : Ev T (tDfn (sp_costs_to T K) (tCons ta tNil)) σ H (fun v _ => ∃ o, v = optV o ∧ Fewest ws o) :=
  ev_dfn (ea_one h) fun vs H1 e ⟨v, ev, p⟩ Q q => ⟨v, many, ws, ev, e.tabs hT, p, ho, q⟩
theorem ok_fewest_changes {f : Addr} {fd : FuncData} (F : Fun K "fewest_changes" "fewest_changes" s_fewest_changes f fd) (D_need_yard : Dfn P w K mg base 4 "need_yard" ["value"] (sp_need_yard T K)) (D_costs_to : Dfn P w K mg base 28 "costs_to" ["yard"] (sp_costs_to T K)) : FnOk P w K mg base CX0 29 f fd ["yard"] (sp_costs_to T K) := by
  refine F.ok sc_fewest_changes (fun vs H Q E h => ?_) (fun cdv A outer s H vs Q E hr h => ?_)
  · obtain ⟨v, many, ws, rfl, _⟩ := h
    rfl
  · obtain ⟨v, many, ws, rfl, hT, hv, ho, q⟩ := h
    refine ⟨_, (pss_cons (ps_expr (pe_dfn D_need_yard (hr.mono (by decide)) (pa_cons (pv 0) pa_nil)))
      (pss_one (ps_ret (pe_dfn D_costs_to (hr.mono (by decide)) (pa_cons (pv 0) pa_nil))))), ?_⟩
    have y0 : ∀ {σ H1} , σ[0]? = some (some v) → Ex T H H1 → Ev T (tVar 0) σ H1 (YT K many ws) := fun h e => ev_varP YT.stb h (YT.stb.ex hv e)
    refine q_drop (ev_need_yard (y0 rfl (Ex.refl _)) ho) fun H1 e1 => ?_
    exact s_ret (ev_costs_to (e1.tabs hT) (y0 rfl e1) ho) fun v H2 e2 hv => q _ _ (e1.trans e2) hv

/-! ### all lots -/
/-- every lot of n walls -/
def allL : Nat → List (List Int)
  | 0 => [[]]
  | n + 1 => allL n ++ (allL n).map (· ++ [(n : Int)])
theorem allL_len : ∀ n, (allL n).length = 2 ^ n
  | 0 => rfl
  | n + 1 => by
    show (allL n ++ (allL n).map (· ++ [(n : Int)])).length = _
    rw [List.length_append, List.length_map, allL_len n, Nat.pow_succ]
    omega
theorem mem_allL {n : Nat} : ∀ {lot : List Int}, lot ∈ allL n ↔ IsLot n lot := by
  induction n with
  | zero =>
    intro lot
    constructor
    · intro h
      have : lot = [] := by simpa [allL] using h
      subst this
      exact lot_nil 0
    · intro h
      cases lot with
      | nil => simp [allL]
      | cons x xs =>
        have := h.inn x (List.mem_cons_self ..)
        omega
  | succ n ih =>
    intro lot
    show lot ∈ allL n ++ (allL n).map (· ++ [(n : Int)]) ↔ _
    rw [List.mem_append, List.mem_map]
    constructor
    · rintro (h | ⟨l, h, rfl⟩)
      · have := ih.mp h
        exact ⟨this.up, fun x hx => by have := this.inn x hx; omega⟩
      · have := ih.mp h
        refine ⟨List.pairwise_append.mpr ⟨this.up, by simp, fun a ha b hb => ?_⟩, fun x hx => ?_⟩
        · have := this.inn a ha
          have hb' : b = n := by simpa using hb
          omega
        · rcases List.mem_append.mp hx with hx | hx
          · have := this.inn x hx; omega
          · have hx' : x = n := by simpa using hx
            omega
    · intro h
      by_cases hn : (n : Int) ∈ lot
      · right
        obtain ⟨s, t, rfl⟩ := List.append_of_mem hn
        have hp := List.pairwise_append.mp h.up
        cases t with
        | nil =>
          refine ⟨s, ih.mpr ⟨hp.1, fun x hx => ?_⟩, rfl⟩
          have h1 := h.inn x (List.mem_append_left _ hx)
          have h2 := hp.2.2 x hx n (List.mem_cons_self ..)
          omega
        | cons y t =>
          have h1 := (List.pairwise_cons.mp hp.2.1).1 y (List.mem_cons_self ..)
          have h2 := h.inn y (by simp)
          omega
      · left
        refine ih.mpr ⟨h.up, fun x hx => ?_⟩
        have := h.inn x hx
        have : x ≠ n := fun e => hn (e ▸ hx)
        omega
theorem ev_cat {α : Type} {Pd : α → V → Hp → Prop} {ds es : List α} {σ : L2.St} {H : Hp} {ta tb : TE} (sP : ∀ d, Stb (Pd d)) (h : Ev T ta σ H (LL Pd ds)) (h2 : Ev T tb σ H (LL Pd es)) (hz : ds.length + es.length ≤ 100000) : Ev T (tOp rCat ta tb) σ H (LL Pd (ds ++ es)) := fun H1 e Q q =>
  h H1 e _ fun v H2 e2 hv => h2 H2 (e.trans e2) _ fun y H3 e3 hy => by
    obtain ⟨a, vs, rfl, ha, pa⟩ := hv.ex sP e3
    obtain ⟨b, ws, rfl, hb, pb⟩ := hy
    refine ⟨a, b, vs, ws, rfl, rfl, ha, hb, ?_, fun p np => q _ _ ((e2.trans e3).trans (Ex.new np)) ⟨p, vs ++ ws, rfl, upd_same, ?_⟩⟩
    · rw [Paired.length pa, Paired.length pb]
      exact Nat.le_trans hz (by decide)
    · have app : ∀ {l : List V} {m : List α}, Paired (fun x d => Pd d x H3) l m → Paired (fun x d => Pd d x H3) (l ++ ws) (m ++ es) := fun {l m} p => by
        induction p with
        | nil => exact pb
        | cons p _ ih => exact .cons p ih
      exact paired_mono (fun x d k => (sP d).ex k (Ex.new (T := T) np)) (app pa)
def sp_lots_of (T : LTab) (K : PySem.W.Frag) : Sp := fun vs H Q _ => ∃ (v : V) (many : Int) (ws : List Wall), vs = [v] ∧ Tabs T H ∧ YT K many ws v H ∧ ws.length ≤ 12 ∧ Pure T (LL (IT K) ((allL ws.length).mergeSort lotLe)) H Q
theorem ok_lots_of {f c P0 : Addr} {fd : FuncData} (F : FunC K "lots_of" s_lots_of f c fd) (B : Tb T base mg "lots_of" c P0) (G : Bn mg) (D_every : Dfn P w K mg base 1 "every" ["yard"] (sp_every T K)) : FnOk P w K mg base CX0 2 f fd ["yard"] (sp_lots_of T K) := by
  refine F.ok sc_lots_of (fun vs H Q E h => ?_) (fun A outer s H vs Q E hr h => ?_)
  · obtain ⟨v, many, ws, rfl, _⟩ := h
    rfl
  · obtain ⟨v, many, ws, rfl, hT, hv, h12, q⟩ := h
    refine ⟨_, (pss_cons (ps_set (i := 1) sc_lots_of.nd rfl (by first | exact Or.inl rfl | exact Or.inr rfl) (pe_lst (pa_cons (pe_tup pa_nil) pa_nil)))
      (pss_cons (ps_for PassesOwn.never rfl (k_tup K (pe_dfn D_every (hr.mono (by decide)) (pa_cons (pv 0) pa_nil)) rfl) (pg_name (i := 2) sc_lots_of.nd rfl (by first | exact Or.inl rfl | exact Or.inr rfl)) (pss_one (ps_set (i := 1) sc_lots_of.nd rfl (by first | exact Or.inl rfl | exact Or.inr rfl) (pe_op op_cat (pv 1) (pe_lc (own := [("lot", 3)]) rfl sc_lots_of.nd (k_list K (pv 1) rfl) (blkOk_by (own := [("lot", 3)]) (N := N_lots_of) (by show blkC _ (defScope s_lots_of) _ _ = true; decide +kernel)) (fun _ _ _ _ _ => (pg_name (i := 3) sc_lots_of.nd rfl (by first | exact Or.inl rfl | exact Or.inr rfl))) (fun _ _ _ _ _ => pts_nil) (fun _ _ _ _ _ => (pe_tup (k_star K (pv 3) (pa_cons (pv 2) pa_nil) rfl))))))))
      (pss_one (ps_ret (pe_sortKey B rfl rfl (by exact ⟨fun _ _ _ _ _ _ => rfl, rfl, rfl, rfl, rfl, by decide, by decide⟩) rfl hr rfl G.len_ rfl (by decide) (by rfl) G.sorted_ (pv 1)))))), ?_⟩
    have sI : ∀ d, Stb (IT K d) := fun _ => IT.stb
    have y0 : ∀ {σ H1} , σ[0]? = some (some v) → Ex T H H1 → Ev T (tVar 0) σ H1 (YT K many ws) := fun h e => ev_varP YT.stb h (YT.stb.ex hv e)
    -- found = [()]
    refine ⟨Nat.zero_le _, fun t nt => ⟨by show 1 ≤ sizeLine; decide, fun p np => ?_⟩⟩
    have nE := Ex.new (T := T) (o := .lst [.ref t]) np
    have E0' : Ex T H (upd (upd H t (.tup [])) p (.lst [.ref t])) := (Ex.new nt).trans nE
    have L0 : LL (IT K) (allL 0) (.ref p) (upd (upd H t (.tup [])) p (.lst [.ref t])) := ⟨p, _, rfl, upd_same, .cons ⟨t, rfl, .of (nE.tup upd_same)⟩ .nil⟩
    refine (ev_every (K := K) (y0 (σ := [some v, some (.ref p), none, none]) rfl E0') h12).go fun x H1 e1 ⟨a, ex, hs⟩ => ?_
    subst ex
    have hev : (evL ws.length).length = ws.length := by simp [evL]
    refine ⟨a, rfl, ⟨_, hs⟩, for_tup (K := K) (xs := (evL ws.length).map V.int) (fun i σ H' => ∃ x1 x2 x3, σ = [some v, some x1, x2, x3] ∧ Ex T H H' ∧ LL (IT K) (allL i) x1 H' ∧ Tk H1 H') ⟨_, _, _, rfl, E0'.trans e1, L0.ex sI e1, Tk.refl _⟩ (fun i σ H' _ ⟨_, _, _, _, _, _, k⟩ => k.sqt hs) ?_ ?_⟩
    · rintro i x σ H2 hi ⟨x1, x2, x3, rfl, e2, hl, k2⟩
      have il : i < ws.length := by
        have := (List.getElem?_eq_some_iff.mp hi).1
        rw [List.length_map, hev] at this
        exact this
      rw [List.getElem?_map, evL_get il] at hi
      cases hi
      have hlen := allL_len i
      have hpow : 2 ^ i ≤ 2 ^ 12 := Nat.pow_le_pow_right (by omega) (by omega)
      have h4096 : (2 : Nat) ^ 12 = 4096 := rfl
      have lc := ev_lcL (β := Unit) (T := T) (K := K) (σ := [some v, some x1, some (.int (i : Int)), x3]) (H := H2) (j := 3) (vs := [3]) (te := tTup (tStar K (tVar 3) (tCons (tVar 2) tNil))) (tt := tYes) (tl := tVar 1) (Ps := IT K) (Pe := fun d => IT K (d ++ [(i : Int)])) (ds := allL i) (fun _ => true) (ev_varL (i := 1) sI rfl hl) (fun _ => IT.stb) (by omega) (fun x => rfl) (fun _ _ _ _ _ _ => et_yes)
        (fun d x H3 hd e3 hx _ => by
          have hdl : d.length ≤ 12 := by
            have := (mem_allL.mp hd)
            have h2 := length_le_of_subset (nodup_of_up this.up) (m := evL i) fun x hx => by
              have := this.inn x hx
              refine List.mem_map.mpr ⟨x.toNat, List.mem_range.mpr (by omega), by omega⟩
            simp [evL] at h2
            omega
          refine ev_tupI (K := K) (ns := d ++ [(i : Int)]) ?_ (by rw [List.length_append]; simp; omega)
          rw [List.map_append]
          exact ea_star (ev_varP IT.stb rfl hx) (ea_consV (ev_var (i := 2) rfl) ea_nil))
      rw [filt_true] at lc
      refine (ev_cat sI (ev_varL (T := T) (i := 1) sI rfl hl) (lc.imp fun v H _ h => h.map) (by rw [List.length_map]; omega)).go fun y H3 e3 hy => ?_
      exact ⟨_, _, _, rfl, e2.trans e3, hy, k2.trans e3.tk⟩
    · rintro σ H2 ⟨x1, x2, x3, rfl, e2, hl, k2⟩
      rw [List.length_map, hev] at hl
      have hlen := allL_len ws.length
      have hpow : 2 ^ ws.length ≤ 2 ^ 12 := Nat.pow_le_pow_right (by omega) (by omega)
      have h4096 : (2 : Nat) ^ 12 = 4096 := rfl
      exact s_ret (ev_sortK (e2.tabs hT) (ev_varL (i := 1) sI rfl hl) (by omega)) fun v H3 e3 hv => q _ _ (e2.trans e3) hv
theorem ev_lots_of {σ : L2.St} {H : Hp} {ta : TE} {many : Int} {ws : List Wall} (hT : Tabs T H) (h : Ev T ta σ H (YT K many ws)) (ho : ws.length ≤ 12) : Ev T (tDfn (sp_lots_of T K) (tCons ta tNil)) σ H (LL (IT K) ((allL ws.length).mergeSort lotLe)) :=
  ev_dfn (ea_one h) fun vs H1 e ⟨v, ev, p⟩ Q q => ⟨v, many, ws, ev, e.tabs hT, p, ho, q⟩
theorem ev_everyT {σ : L2.St} {H : Hp} {ta : TE} {many : Int} {ws : List Wall} {lot : List Int} (h : Ev T ta σ H (YT K many ws)) (hl : ws.length ≤ 12) : Ev T (tDfn (sp_every T K) (tCons ta tNil)) σ H (IT K (evL (turn lot ws).length)) := by
  rw [turn_len]
  exact ev_every h hl
/-- what change_lots tells -/
noncomputable def chL (ws : List Wall) : Option Int → List (List Int)
  | none => []
  | some m => ((allL ws.length).mergeSort lotLe).filter fun lot => decide ((lot.length : Int) = m) && tv (Good (turn lot ws))
def sp_change_lots (T : LTab) (K : PySem.W.Frag) : Sp := fun vs H Q _ => ∃ (v : V) (many : Int) (ws : List Wall), vs = [v] ∧ Tabs T H ∧ YT K many ws v H ∧ YOk many ws ∧ Pure T (fun v H => ∃ o, Fewest ws o ∧ LL (IT K) (chL ws o) v H) H Q
theorem ok_change_lots {f : Addr} {fd : FuncData} (F : Fun K "change_lots" "change_lots" s_change_lots f fd) (G : Bn mg) (D_need_yard : Dfn P w K mg base 4 "need_yard" ["value"] (sp_need_yard T K)) (D_costs_to : Dfn P w K mg base 28 "costs_to" ["yard"] (sp_costs_to T K))
    (D_lots_of : Dfn P w K mg base 2 "lots_of" ["yard"] (sp_lots_of T K)) (D_is_growth : Dfn P w K mg base 3 "is_growth" ["yard", "lot"] (sp_is_growth T K)) (D_turned_of : Dfn P w K mg base 2 "turned_of" ["yard", "lot"] (sp_turned_of T K)) (D_every : Dfn P w K mg base 1 "every" ["yard"] (sp_every T K)) :
    FnOk P w K mg base CX0 29 f fd ["yard"] (sp_change_lots T K) := by
  refine F.ok sc_change_lots (fun vs H Q E h => ?_) (fun cdv A outer s H vs Q E hr h => ?_)
  · obtain ⟨v, many, ws, rfl, _⟩ := h
    rfl
  · obtain ⟨v, many, ws, rfl, hT, hv, ho, q⟩ := h
    refine ⟨_, (pss_cons (ps_expr (pe_dfn D_need_yard (hr.mono (by decide)) (pa_cons (pv 0) pa_nil)))
      (pss_cons (ps_set (i := 1) sc_change_lots.nd rfl (by first | exact Or.inl rfl | exact Or.inr rfl) (pe_dfn D_costs_to (hr.mono (by decide)) (pa_cons (pv 0) pa_nil)))
      (pss_cons (ps_if (pt_cmpR op_isN (pv 1) pe_non (nomark _)) (pss_one (ps_ret (pe_lst pa_nil))) pss_nil)
      (pss_one (ps_ret (pe_lc (own := [("lot", 2)]) rfl sc_change_lots.nd (k_list K (pe_dfn D_lots_of (hr.mono (by decide)) (pa_cons (pv 0) pa_nil)) rfl) (blkOk_by (own := [("lot", 2)]) (N := N_change_lots) (by show blkC _ (defScope s_change_lots) _ _ = true; decide +kernel)) (fun _ _ _ _ _ => (pg_name (i := 2) sc_change_lots.nd rfl (by first | exact Or.inl rfl | exact Or.inr rfl))) (fun _ _ _ _ _ => (pts_one (PW.pt (pw_and (pt_cmpR op_eq (pe_callB (k_len K rfl) (by rfl) G.len_ PySem.boot_len (pa_cons (pv 2) pa_nil)) (pv 1) (nomark _)) (pw_and1 (pt_val (pe_dfn D_is_growth (hr.mono (by decide)) (pa_cons (pe_dfn D_turned_of (hr.mono (by decide)) (pa_cons (pv 0) (pa_cons (pv 2) pa_nil))) (pa_cons (pe_dfn D_every (hr.mono (by decide)) (pa_cons (pv 0) pa_nil)) pa_nil))))))))) (fun _ _ _ _ _ => (pv 2)))))))), ?_⟩
    have sI : ∀ d, Stb (IT K d) := fun _ => IT.stb
    have y0 : ∀ {σ H1} , σ[0]? = some (some v) → Ex T H H1 → Ev T (tVar 0) σ H1 (YT K many ws) := fun h e => ev_varP YT.stb h (YT.stb.ex hv e)
    have h12 := ho.wl
    refine q_drop (ev_need_yard (y0 rfl (Ex.refl _)) ho) fun H1 e1 => ?_
    refine q_asg (ev_costs_to (e1.tabs hT) (y0 rfl e1) ho) fun v1 H2 e2 ⟨o, ev1, hf⟩ => ?_
    subst ev1
    have E2 := e1.trans e2
    refine q_if (T := T) (b := decide (optV o = V.non)) (et_test (ev_op (ev_var (i := 1) rfl) stb_eq ev_c fun x y H1 _ hx hy Q q => ⟨hy, q _ _ (Ex.refl _) (by rw [hx])⟩)) (fun hb H3 e3 => ?_) (fun hb H3 e3 => ?_)
    · cases o with
      | some c => simp [optV] at hb
      | none => exact s_ret (ev_emptyL (P := IT K)) fun v H4 e4 hv => q _ _ ((E2.trans e3).trans e4) ⟨none, hf, hv⟩
    · cases o with
      | none => simp [optV] at hb
      | some m =>
        have E3 := E2.trans e3
        have hlen := allL_len ws.length
        have hpow : 2 ^ ws.length ≤ 2 ^ 12 := Nat.pow_le_pow_right (by omega) (by omega)
        have h4096 : (2 : Nat) ^ 12 = 4096 := rfl
        refine s_ret (ev_lcL (β := Unit) (T := T) (K := K) (Ps := IT K) (Pe := IT K) (ds := (allL ws.length).mergeSort lotLe) (fun lot => decide ((lot.length : Int) = m) && tv (Good (turn lot ws))) (ev_lots_of (E3.tabs hT) (y0 rfl E3) h12) sI (by rw [List.length_mergeSort]; omega) (fun x => rfl) (fun lot x H4 hm e4 hx => ?_) (fun lot x H4 hm e4 hx _ => ?_)) fun v H4 e4 hv => q _ _ (E3.trans e4) ⟨some m, hf, hv⟩
        · refine et_and (et_test (ev_eqS (x := .int (lot.length : Int)) (y := .int m) rfl (ev_lenT (P := eqI) ((ev_varP (i := 2) IT.stb rfl hx).imp fun v H _ h => h.tt)) (ev_var (i := 1) rfl)) |> fun h => et_is h (by simp)) fun _ => ?_
          have hok : YOk many (turn lot ws) := ⟨ho.m1, ho.m9, by rw [turn_len]; exact ho.wl, turn_ok ho.wo⟩
          exact et_B (ev_is_growth (ev_turned_of (y0 rfl (E3.trans e4)) (ev_varP (i := 2) IT.stb rfl hx) h12) (ev_everyT (y0 rfl (E3.trans e4)) h12) hok)
        · exact ev_varP IT.stb rfl hx
end
end WI
set_option maxRecDepth 100000
set_option maxHeartbeats 4000000
/-! sorted of a list of lots, min of a list of pairs of a number and a lot. -/
namespace WI
open PySem PySem.Spec L2 LamX
def lexLe (a b : List Int) : Bool := decide (a ≤ b)
theorem dI_le : PySem.W.dataLe false dI = lexLe := by
  funext a b
  rw [PySem.W.dataLe_eq]
  show (!PySem.W.dataLt (.tuple (b.map .int)) (.tuple (a.map .int))) = lexLe a b
  rw [PySem.W.dataLt_tuple]
  have e : PyProof.Rows.lexLt PyProof.Rows.itemOrd (PySem.W.keyToksAll (b.map .int)) (PySem.W.keyToksAll (a.map .int)) = decide (b < a) := PySem.W.dataLt_ints b a
  rw [e]
  unfold lexLe
  rw [← decide_not]
  exact decide_eq_decide.mpr Iff.rfl
theorem swo_none : SrtO.Swo (fun _ _ : Value => false) := by
  constructor <;> simp
def rSortL (K : PySem.W.Frag) : List V → Hp → VK → Prop := fun xs H Q => ∃ (a : Addr) (ys : List V) (ds : List (List Int)), xs = [.ref a] ∧ H a = some (.lst ys) ∧ ys.length ≤ 100000 ∧ Paired (fun v d => IT K d v H) ys ds ∧ (2 ≤ ds.length → ∀ d ∈ ds, d ≠ []) ∧
  ∀ (p : Addr) (ys' : List V), H p = none → Paired (fun v d => IT K d v H) ys' (ds.mergeSort lexLe) → Q (.ref p) (upd H p (.lst ys'))
/-- a pair of a number and a lot -/
def GV (K : PySem.W.Frag) (g : Int × List Int) (v : V) (H : Hp) : Prop := ∃ t b, v = .ref t ∧ SqT K H t [.int g.1, b] ∧ IT K g.2 b H
theorem GV.stb {K : PySem.W.Frag} (g : Int × List Int) : Stb (GV K g) := fun _ _ _ ⟨t, b, e, h, i⟩ k => ⟨t, b, e, k.sqt h, IT.stb _ _ _ i k⟩
def dG (g : Int × List Int) : PyData := .tuple [.int g.1, dI g.2]
theorem dp_GV {K : PySem.W.Frag} {g : Int × List Int} {v : V} {H : Hp} (h : GV K g v H) : Dp K H v (dG g) := by
  obtain ⟨t, b, rfl, h, i⟩ := h
  exact .tup h (.cons (.int _) (.cons (dp_IT i) .nil))
theorem nice_dG {g : Int × List Int} : Nice 2 (dG g) := nice_tup fun d hd => by
  rcases List.mem_cons.mp hd with rfl | hd
  · exact nice_int.mono (by omega)
  · rw [List.mem_singleton.mp hd]
    exact nice_dI
theorem alike_dI (a b : List Int) : PySem.W.alike (dI a) (dI b) = true := by
  show PySem.W.alike (.tuple (a.map .int)) (.tuple (b.map .int)) = true
  simp [PySem.W.alike, PySem.W.alike_ints]
theorem alike_dG (a b : Int × List Int) : PySem.W.alike (dG a) (dG b) = true := by
  show PySem.W.alike (.tuple [.int a.1, dI a.2]) (.tuple [.int b.1, dI b.2]) = true
  simp [PySem.W.alike, PySem.W.alikeAll, alike_dI]
theorem dG_lt {a b : Int × List Int} : (PySem.W.dataLt (dG a) (dG b) = true → a.1 ≤ b.1) ∧ (PySem.W.dataLt (dG a) (dG b) = false → b.1 ≤ a.1) := by
  show (PySem.W.dataLt (.tuple [.int a.1, dI a.2]) (.tuple [.int b.1, dI b.2]) = true → _) ∧ (PySem.W.dataLt (.tuple [.int a.1, dI a.2]) (.tuple [.int b.1, dI b.2]) = false → _)
  rw [PySem.W.dataLt_pair (by simp [PySem.W.alike]) (alike_dI _ _), eqv_int, PySem.W.dataLt_int]
  by_cases h : a.1 = b.1
  · simp [h]
  · rw [if_neg (by simpa using h)]
    simp only [decide_eq_true_eq, decide_eq_false_iff_not]
    exact ⟨fun z => by omega, fun z => by omega⟩
theorem minD_dG : ∀ (gs : List (Int × List Int)) (a : Int × List Int), ∃ m, PySem.W.minD (dG a) (gs.map dG) = dG m ∧ m.1 ≤ a.1 ∧ ∀ g ∈ gs, m.1 ≤ g.1
  | [], a => ⟨a, rfl, Int.le_refl _, fun g h => by cases h⟩
  | y :: gs, a => by
    have e : PySem.W.minD (dG a) ((y :: gs).map dG) = PySem.W.minD (if PySem.W.dataLt (dG y) (dG a) then dG y else dG a) (gs.map dG) := rfl
    rw [e]
    cases h : PySem.W.dataLt (dG y) (dG a) with
    | true =>
      obtain ⟨m, e1, e2, e3⟩ := minD_dG gs y
      have := dG_lt.1 h
      exact ⟨m, e1, by omega, fun g hg => by
        rcases List.mem_cons.mp hg with rfl | hg
        · exact e2
        · exact e3 g hg⟩
    | false =>
      obtain ⟨m, e1, e2, e3⟩ := minD_dG gs a
      have := dG_lt.2 h
      exact ⟨m, e1, e2, fun g hg => by
        rcases List.mem_cons.mp hg with rfl | hg
        · omega
        · exact e3 g hg⟩
def rMinG (K : PySem.W.Frag) : List V → Hp → VK → Prop := fun xs H Q => ∃ (a : Addr) (ys : List V) (gs : List (Int × List Int)), xs = [.ref a] ∧ H a = some (.lst ys) ∧ Paired (fun v g => GV K g v H) ys gs ∧ gs ≠ [] ∧
  ∀ v g, g ∈ gs → (∀ g' ∈ gs, g.1 ≤ g'.1) → GV K g v H → Q v H
section
variable {X : Cx} {pins : List (Addr × Obj)} {σ : L2.St} {H : Hp} {s : Shared}
theorem cr_sortedL {n : Nat} (hr : Room n X.A) : CallR X (.builtin "sorted") (rSortL X.K) := by
  intro pins s σ H xs us Q I r h
  obtain ⟨a, ys, ds, rfl, ha, hsz, hp, hne, qq⟩ := h
  obtain rfl := Vals.ref1 r
  obtain ⟨hz, its, n0, rv, hob⟩ := I.hok a _ ha
  have hlen := rv.length
  have hpl := Paired.length hp
  have hun := hr.un
  have fin : ∀ {h' : Heap} {tk : Nat} {c : Nat} {out : List Value} {ys' : List V}, (∀ b o, s.heap.get? b = some o → h'.get? b = some o) → out.length ≤ 100000 → h'.get? (s.heap.objs.size + 1) = some (PyProof.Rows.seqObj "list" out.toArray c) → Vals ys' out → Paired (fun v d => IT X.K d v H) ys' (ds.mergeSort lexLe) →
      EP X pins σ Q (.ref (s.heap.objs.size + 1)) { s with heap := h', toks := tk } := fun {h' tk c out ys'} kp hl hD r1 r2 => by
    have l1 := r1.length
    exact ⟨.ref _, upd H (s.heap.objs.size + 1) (.lst ys'), I.laid (t' := tk) kp (Nat.le_succ _) ⟨by rw [sizeLine_eq]; omega, out, c, r1, hD⟩, rfl, qq _ _ (I.hok.fresh (Nat.le_succ _)) r2⟩
  by_cases h2 : 2 ≤ ds.length
  · have hne' := hne h2
    refine PySem.W.sorted_data (vs := its) (bs := ds) (enc := dI) (R := fun u d => ∃ y, RelV y u ∧ IT X.K d y H) ⟨_, hob, rfl, n0, rfl⟩ (each_of (paired_join rv hp)) ((each_of (paired_join rv hp)).mono fun u d ⟨y, ry, hy⟩ => Dp.reads I _ _ _ (dp_IT hy) ry) (PySem.W.AllAlike.of alike_dI) (.inl fun d hd => ?_) (by rw [sizeLine_eq]; omega) (fun d _ => ?_) fun out hl eo => ?_
    · obtain ⟨x, hx, rfl⟩ := List.mem_map.mp hd
      cases x with
      | nil => exact absurd rfl (hne' _ hx)
      | cons z zs => exact ⟨.int z, zs.map .int, rfl⟩
    · have := (nice_dI (ns := d)).2
      omega
    · rw [dI_le] at eo
      obtain ⟨ys', r1, r2⟩ := paired_split (of_each eo)
      obtain ⟨c, hD⟩ := PyProof.Rows.sortedAll_at s.heap its out.toArray
      exact fin (fun _ _ => PyProof.Rows.sortedAll_old) (by omega) hD r1 r2
  · refine SrtO.sorted_ord (vs := its) swo_none ⟨_, hob, rfl, n0, rfl⟩ (by rw [sizeLine_eq]; omega) (fun h => absurd h (by omega)) fun out h1 h3 => ?_
    have e : out = its := by
      have hp := h3.perm
      have : its.length < 2 := by omega
      match its, this, hp with
      | [], _, hp => exact List.perm_nil.mp hp
      | [x], _, hp => exact List.perm_singleton.mp hp
    subst e
    have e2 : ds.mergeSort lexLe = ds := by
      have : ds.length < 2 := by omega
      match ds, this with
      | [], _ => simp
      | [x], _ => simp
    obtain ⟨c, hD⟩ := PyProof.Rows.sortedAll_at s.heap out out.toArray
    exact fin (fun _ _ => PyProof.Rows.sortedAll_old) (by omega) hD rv (by rw [e2]; exact hp)
theorem cr_minG {n : Nat} (hr : Room n X.A) : CallR X (.builtin "min") (rMinG X.K) := by
  intro pins s σ H xs us Q I r h
  obtain ⟨a, ys, gs, rfl, ha, hp, hne, qq⟩ := h
  obtain rfl := Vals.ref1 r
  obtain ⟨hz, its, n0, rv, hob⟩ := I.hok a _ ha
  have hun := hr.un
  have hdp : DpAll X.K H ys (gs.map dG) := dpAll_of (P := GV X.K) (fun _ _ h => dp_GV h) hp
  obtain ⟨as, hra⟩ := Dp.readsAll I _ _ _ hdp rv
  cases gs with
  | nil => exact absurd rfl hne
  | cons g gs =>
    have hdep : PyData.depthAll (dG g :: gs.map dG) ≤ 2 := (nice_all (ds := dG g :: gs.map dG) (nice_map (xs := g :: gs) fun _ _ => nice_dG)).2
    refine PySem.W.min_list_data (vs := its.toArray) (x := dG g) (xs := gs.map dG) hr.hd ⟨_, hob, rfl, n0, rfl⟩ hra ⟨fun d hd d' hd' => ?_, fun d hd => ?_⟩ (by omega) fun i v h' tk bs hi hrd kp => ?_
    · have hd1 : d ∈ (g :: gs).map dG := hd
      have hd2 : d' ∈ (g :: gs).map dG := hd'
      obtain ⟨x, _, rfl⟩ := List.mem_map.mp hd1
      obtain ⟨y, _, rfl⟩ := List.mem_map.mp hd2
      exact alike_dG x y
    · have hd1 : d ∈ (g :: gs).map dG := hd
      obtain ⟨x, _, rfl⟩ := List.mem_map.mp hd1
      unfold dG
      exact fun z => by cases z
    · have hi' : its[i]? = some v := by simpa using hi
      obtain ⟨y, hy, ry⟩ := paired_get' rv hi'
      obtain ⟨g1, hg1, gv⟩ := paired_get hp hy
      obtain ⟨as1, hr1⟩ := Dp.reads I _ _ _ (dp_GV gv) ry
      obtain ⟨m, e1, e2, e3⟩ := minD_dG gs g
      rw [e1] at hrd
      have e := PySem.W.alike_unique _ _ _ _ _ (alike_dG g1 m) (PyProof.Rows.Reads.keeps kp hr1) hrd
      have eg : g1.1 = m.1 := by
        unfold dG at e
        injection e with e
        injection e with e _
        injection e
      refine ⟨y, H, I.kept kp, ry, qq y g1 (List.mem_of_getElem? hg1) (fun g' hg' => ?_) gv⟩
      rw [eg]
      rcases List.mem_cons.mp hg' with rfl | hg'
      · exact e2
      · exact e3 g' hg'
end
section
variable {T : LTab} {K : PySem.W.Frag} {H : Hp} {σ : L2.St} {te : TE}
theorem ev_sortL {ds : List (List Int)} (h : Ev T te σ H (LL (IT K) ds)) (hz : ds.length ≤ 100000) (hn : 2 ≤ ds.length → ∀ d ∈ ds, d ≠ []) : Ev T (tCB (rSortL K) (tCons te tNil)) σ H (LL (IT K) (ds.mergeSort lexLe)) := fun H1 e Q qq =>
  h H1 e _ fun v H2 e2 hv => by
    obtain ⟨a, vs, rfl, hl, p⟩ := hv
    refine ⟨a, vs, ds, rfl, hl, by rw [Paired.length p]; exact hz, p, hn, fun p' ys' np hp => ?_⟩
    exact qq _ _ (e2.trans (Ex.new np)) ⟨p', ys', rfl, upd_same, paired_mono (fun x d k => IT.stb.ex k (Ex.new (T := T) np)) hp⟩
theorem ev_minG {gs : List (Int × List Int)} (h : Ev T te σ H (LL (GV K) gs)) (hne : gs ≠ []) : Ev T (tCB (rMinG K) (tCons te tNil)) σ H (fun v H' => ∃ g ∈ gs, (∀ g' ∈ gs, g.1 ≤ g'.1) ∧ GV K g v H') := fun H1 e Q qq =>
  h H1 e _ fun v H2 e2 hv => by
    obtain ⟨a, vs, rfl, hl, p⟩ := hv
    exact ⟨a, vs, gs, rfl, hl, p, hne, fun v g hg hm gv => qq _ _ e2 ⟨g, hg, hm, gv⟩⟩
end
end WI
set_option maxRecDepth 100000
/-! The law's own defs: the row that is drawn from. -/
namespace WI
open PySem PySem.Spec L2 LamX RZ StX
/-- all but what stands at a -/
def hid (a : Addr) (H : Hp) : Hp := fun b => if b = a then none else H b
theorem hid_same {a : Addr} {H : Hp} : hid a H a = none := if_pos rfl
theorem hid_ne {a b : Addr} {H : Hp} (h : b ≠ a) : hid a H b = H b := if_neg h
section
variable {T : LTab} {P : Program} {w : World} {K : PySem.W.Frag} {mg : Str → Option Value} {base : Heap} {a sl : Addr} {sn : List Int} {H H' H1 H2 B : Hp} {xs : List V}
theorem hid_tabs (ha : H a = some (.lst xs)) (t : Tabs T H) : Tabs T (hid a H) := fun q hq => by
  obtain ⟨ps, h1, h2, h3⟩ := t q hq
  refine ⟨ps, by rw [hid_ne (fun z => by rw [z, ha] at h1; cases h1)]; exact h1, h2, fun pos cv hc => ?_⟩
  obtain ⟨c, e1, e2⟩ := h3 pos cv hc
  refine ⟨c, e1, ?_⟩
  rw [hid_ne (fun z => by
    rw [z, ha] at e2
    unfold CodeO at e2
    cases e2)]
  exact e2
theorem hid_tabs' (t : Tabs T (hid a H)) : Tabs T H := t.ext fun b o h => by
  by_cases z : b = a
  · rw [z, hid_same] at h; cases h
  · rwa [hid_ne z] at h
theorem hid_refl : Ex T (hid a H) H := Ex.of fun b o h => by
  by_cases z : b = a
  · rw [z, hid_same] at h; cases h
  · rwa [hid_ne z] at h
theorem hid_mid (e : Ex T B H1) (hB : B a = none) (h1 : H1 a = some (.lst xs)) : Ex T B (hid a H1) := by
  refine ⟨fun b o hb n => ?_, fun b hb => ?_, fun t => hid_tabs h1 (e.tabs t)⟩
  · rw [hid_ne (fun z => by rw [z, hB] at hb; cases hb)]
    exact e.keep b o hb n
  · by_cases z : b = a
    · rw [z]; exact hB
    · rw [hid_ne z] at hb
      exact e.back b hb
/-- from what is kept but for a -/
theorem hid_on (e : Ex T B H1) (hB : B a = none) (h1 : H1 a = some (.lst xs)) (e2 : Ex T (hid a H1) H2) : Ex T B H2 := (hid_mid e hB h1).trans e2
theorem hid_tk (ha : H a = some (.lst xs)) (e : Ex T (hid a H) H') : Tk H H' := by
  have k : Tk H (hid a H) := fun b => ⟨fun ys h => by rw [hid_ne (fun z => by rw [z, ha] at h; cases h)]; exact h, fun u ys h => by rw [hid_ne (fun z => by rw [z, ha] at h; cases h)]; exact h⟩
  exact k.trans e.tk
theorem hid_lst {b : Addr} {ys : List V} (e : Ex T (hid a H) H') (n : b ≠ a) (h : H b = some (.lst ys)) : H' b = some (.lst ys) := e.lst (by rw [hid_ne n]; exact h)
/-- the row -/
def RowAt (K : PySem.W.Frag) (a sl : Addr) (sn : List Int) (H : Hp) : Prop := ∃ (i sd rest : Int), H a = some (.lst [.ref sl, .int i, .int sd, .int rest]) ∧ SqL K (hid a H) sl (sn.map V.int) ∧ 0 ≤ i
theorem hid_sqlB {b : Addr} {ys : List V} (e : Ex T B H1) (hB : B a = none) (h : SqL K B b ys) : SqL K (hid a H1) b ys := by
  have h2 := e.sql h
  rcases h with h | h
  · have n : b ≠ a := fun z => by
      rcases h with h | ⟨o, h⟩
      · rw [z, hB] at h; cases h
      · rw [z, hB] at h; cases h
    rcases h2 with (h2 | ⟨o, h2⟩) | h2
    · exact .inl (.inl (by rw [hid_ne n]; exact h2))
    · exact .inl (.inr ⟨o, by rw [hid_ne n]; exact h2⟩)
    · exact .inr h2
  · exact .inr h
theorem RowAt.ex (r : RowAt K a sl sn H) (e : Ex T H H') : RowAt K a sl sn H' := by
  obtain ⟨i, sd, rest, h1, h2, h3⟩ := r
  exact ⟨i, sd, rest, e.lst h1, hid_sqlB (hid_refl.trans e) hid_same h2, h3⟩
theorem RowAt.lst (r : RowAt K a sl sn H) : ∃ xs, H a = some (.lst xs) := by
  obtain ⟨i, sd, rest, h1, _⟩ := r
  exact ⟨_, h1⟩
def PureR (T : LTab) (K : PySem.W.Frag) (a sl : Addr) (sn : List Int) (Pv : V → Hp → Prop) (H : Hp) (Q : VK) : Prop := ∀ v H', Ex T (hid a H) H' → RowAt K a sl sn H' → Pv v H' → Q v H'
theorem ev_I {σ : L2.St} {C : Int → Int → Prop} {g : Int → Int → V} {i j : Int} {ta tb : TE} (ha : Ev T ta σ H (fun v _ => v = .int i)) (hb : Ev T tb σ H (fun v _ => v = .int j)) (hC : C i j) : Ev T (tOp (rI C g) ta tb) σ H (fun v _ => v = g i j) :=
  ev_op ha stb_eq hb fun x y H1 _ hx hy Q q => ⟨i, j, hx, hy, hC, q _ _ (Ex.refl _) rfl⟩
theorem ev_int1 {σ : L2.St} {te : TE} {i : Int} (h : Ev T te σ H (fun v _ => v = .int i)) : Ev T (tCB (fun xs H Q => (∃ i, xs = [.int i] ∧ Q (.int i) H) ∨ ∃ k, xs = [.bl k] ∧ Q (.int (if k then 1 else 0)) H) (tCons te tNil)) σ H (fun v _ => v = .int i) := fun H1 e Q q =>
  h H1 e _ fun v H2 e2 hv => .inl ⟨i, by rw [hv], q _ _ e2 rfl⟩
theorem ev_row {σ : L2.St} {j k : Nat} {x : V} (h0 : σ[j]? = some (some (.ref a))) (hl : H a = some (.lst xs)) (hx : xs[k]? = some x) : Ev T (tOp (rIxL K) (tVar j) (tC (.int (k : Int)))) σ H (fun v _ => v = x) := fun H1 e Q q =>
  ⟨_, h0, a, xs, k, x, rfl, rfl, .of (e.lst hl), atI_nat hx, q _ _ (Ex.refl _) rfl⟩
/-- row[k] = e -/
theorem q_set {σ : L2.St} {te : TE} {D : Ends} {tz : TS} {k : Nat} {x : V} (h0 : σ[0]? = some (some (.ref a))) (e : Ex T B H) (hB : B a = none) (hl : H a = some (.lst xs)) (hk : ixN xs.length (k : Int) = some k) (h : Ev T te σ H (fun v _ => v = x)) (c : ∀ H1, Ex T B H1 → H1 a = some (.lst (xs.set k x)) → tz D σ H1) :
    tSeq (tAsg te (gSub (tVar 0) (tC (.int (k : Int))) rSetL)) tz D σ H := h.go fun v H1 e1 hv => by
  subst hv
  exact ⟨_, h0, a, xs, (k : Int), k, rfl, rfl, e1.lst hl, hk, c _ ((e.trans e1).mut hB (e1.lst hl)) upd_same⟩
theorem s_set {σ : L2.St} {te : TE} {D : Ends} {k : Nat} {x : V} (h0 : σ[0]? = some (some (.ref a))) (e : Ex T B H) (hB : B a = none) (hl : H a = some (.lst xs)) (hk : ixN xs.length (k : Int) = some k) (h : Ev T te σ H (fun v _ => v = x)) (c : ∀ H1, Ex T B H1 → H1 a = some (.lst (xs.set k x)) → D.nx σ H1) :
    tAsg te (gSub (tVar 0) (tC (.int (k : Int))) rSetL) D σ H := h.go fun v H1 e1 hv => by
  subst hv
  exact ⟨_, h0, a, xs, (k : Int), k, rfl, rfl, e1.lst hl, hk, c _ ((e.trans e1).mut hB (e1.lst hl)) upd_same⟩
def sp_taken (T : LTab) (K : PySem.W.Frag) : Sp := fun vs H Q _ => ∃ (a sl : Addr) (sn : List Int) (many : Int), vs = [.ref a, .int many] ∧ RowAt K a sl sn H ∧ 1 ≤ many ∧ many ≤ 1000 ∧ PureR T K a sl sn (fun v _ => ∃ r, v = .int r ∧ 0 ≤ r ∧ r < many) H Q
theorem ok_law_taken {f : Addr} {fd : FuncData} (F : Fun K "_law_taken" "_law_taken" s_law_taken f fd) (G : Bn mg) : FnOk P w K mg base CX0 1 f fd ["_law_row", "_law_many"] (sp_taken T K) := by
  refine F.ok sc_law_taken (fun vs H Q E h => ?_) (fun cdv A outer s H vs Q E hr h => ?_)
  · obtain ⟨a, sl, sn, many, rfl, _⟩ := h
    rfl
  · obtain ⟨a, b, ns, many, rfl, ⟨i, sd, rest, hl, hbB, hi⟩, h1, h2, q⟩ := h
    refine ⟨_, (pss_cons (ps_if (pt_cmpR op_gt (pe_ix (k_ix_list K rfl) (pv 0) pe_int (fun _ _ => rfl)) pe_int (nomark _)) (pss_cons (ps_set (i := 2) sc_law_taken.nd rfl (by first | exact Or.inl rfl | exact Or.inr rfl) (pe_op op_modN (pe_callTy call_int1 (by rfl) G.int_ (by decide +kernel) (pa_cons (pe_ix (k_ix_list K rfl) (pv 0) pe_int (fun _ _ => rfl)) pa_nil)) (pv 1)))
      (pss_cons (ps_asg (pe_op op_fdivW (pe_ix (k_ix_list K rfl) (pv 0) pe_int (fun _ _ => rfl)) (pv 1)) (pg_sub (pv 0) pe_int set_list))
      (pss_one (ps_ret (pv 2))))) pss_nil)
      (pss_cons (ps_asg (pe_op op_add (pe_ix (k_ix_list K rfl) (pv 0) pe_int (fun _ _ => rfl)) pe_int) (pg_sub (pv 0) pe_int set_list))
      (pss_cons (ps_if (pt_cmpR op_gt (pe_ix (k_ix_list K rfl) (pv 0) pe_int (fun _ _ => rfl)) (pe_callB (k_len K rfl) (by rfl) G.len_ PySem.boot_len (pa_cons (pe_ix (k_ix_list K rfl) (pv 0) pe_int (fun _ _ => rfl)) pa_nil)) (nomark _)) (pss_cons (ps_asg (pe_op op_modN (pe_callTy call_int1 (by rfl) G.int_ (by decide +kernel) (pa_cons (pe_op op_add (pe_op op_mul (pe_ix (k_ix_list K rfl) (pv 0) pe_int (fun _ _ => rfl)) pe_int) pe_int) pa_nil)) pe_int) (pg_sub (pv 0) pe_int set_list))
      (pss_one (ps_ret (pe_op op_modN (pe_callTy call_int1 (by rfl) G.int_ (by decide +kernel) (pa_cons (pe_op op_fdivW (pe_ix (k_ix_list K rfl) (pv 0) pe_int (fun _ _ => rfl)) pe_int) pa_nil)) (pv 1))))) pss_nil)
      (pss_cons (ps_set (i := 3) sc_law_taken.nd rfl (by first | exact Or.inl rfl | exact Or.inr rfl) (pe_ix (k_ix_list K rfl) (pe_ix (k_ix_list K rfl) (pv 0) pe_int (fun _ _ => rfl)) (pe_op op_sub (pe_ix (k_ix_list K rfl) (pv 0) pe_int (fun _ _ => rfl)) pe_int) (fun _ _ => rfl)))
      (pss_cons (ps_asg (pe_op op_modN (pe_callTy call_int1 (by rfl) G.int_ (by decide +kernel) (pa_cons (pe_op op_add (pe_op op_add (pe_op op_mul (pe_ix (k_ix_list K rfl) (pv 0) pe_int (fun _ _ => rfl)) pe_int) (pv 3)) pe_int) pa_nil)) pe_int) (pg_sub (pv 0) pe_int set_list))
      (pss_cons (ps_if (pt_cmpR op_ge (pv 3) (pe_op op_pow pe_int pe_int) (nomark _)) (pss_one (ps_asg (pe_op op_fdivW (pv 3) (pv 1)) (pg_sub (pv 0) pe_int set_list))) pss_nil)
      (pss_one (ps_ret (pe_op op_modN (pe_callTy call_int1 (by rfl) G.int_ (by decide +kernel) (pa_cons (pv 3) pa_nil)) (pv 1)))))))))), ?_⟩
    have e0 : Ex T (hid a H) H := hid_refl
    have nB : hid a H a = none := hid_same
    have hdiv : CDivW 0 many := wide_div (b := 20) h1 (by
      have : many.natAbs ≤ 1000 := by omega
      exact Nat.lt_of_le_of_lt this (by decide)) (by decide) (by decide)
    have md : ∀ z : Int, 0 ≤ z.fmod many ∧ z.fmod many < many := fun z => ⟨Int.fmod_nonneg_of_pos _ (by omega), Int.fmod_lt_of_pos _ (by omega)⟩
    have fin : ∀ {H1 : Hp} {i sd rest r : Int}, Ex T (hid a H) H1 → H1 a = some (.lst [.ref b, .int i, .int sd, .int rest]) → 0 ≤ i → 0 ≤ r → r < many → Q (.int r) H1 := fun e hl hi h1 h2 => q _ _ e ⟨_, _, _, hl, hid_sqlB e hid_same hbB, hi⟩ ⟨_, rfl, h1, h2⟩
    refine q_if (T := T) (et_test (ev_I0 (g := fun i j => V.bl (decide (j < i))) (ev_row (j := 0) (k := 3) rfl hl rfl) ev_c)) (fun hp H1 e1 => ?_) (fun hp H1 e1 => ?_)
    · have hl1 := e1.lst hl
      refine q_asg (T := T) (ev_I (i := rest) (j := many) (ev_int1 (ev_row (j := 0) (k := 3) rfl hl1 rfl)) (ev_var (i := 1) rfl) (by omega)) fun v2 H2 e2 hv2 => ?_
      subst hv2
      have hl2 := e2.lst hl1
      refine q_set (T := T) (k := 3) rfl ((e0.trans e1).trans e2) nB hl2 rfl (ev_I (i := rest) (j := many) (ev_row (j := 0) (k := 3) rfl hl2 rfl) (ev_var (i := 1) rfl) hdiv) fun H3 e3 hl3 => ?_
      refine s_ret (T := T) (ev_var (i := 2) rfl) fun v H4 e4 hv => ?_
      subst hv
      exact fin (e3.trans e4) (e4.lst hl3) hi (md _).1 (md _).2
    · have hl1 := e1.lst hl
      refine q_set (T := T) (k := 1) rfl (e0.trans e1) nB hl1 rfl (ev_I0 (g := fun i j => V.int (i + j)) (ev_row (j := 0) (k := 1) rfl hl1 rfl) ev_c) fun H2 e2 hl2 => ?_
      have hb2 : SqL K H2 b (ns.map V.int) := e2.sql hbB
      have evb : ∀ {σ H3}, σ[0]? = some (some (.ref a)) → Ex T H2 H3 → H3 a = some (.lst [.ref b, .int (i + 1), .int sd, .int rest]) → Ev T (tOp (rIxL K) (tVar 0) (tC (.int 0))) σ H3 (fun v H' => v = .ref b ∧ SqL K H' b (ns.map V.int)) := fun h0 e3 h3 => (ev_row (j := 0) (k := 0) h0 h3 rfl).imp fun v H4 e4 hv => ⟨hv, (e3.trans e4).sql hb2⟩
      refine q_if (T := T) (et_test (ev_I0 (g := fun i j => V.bl (decide (j < i))) (ev_row (j := 0) (k := 1) rfl hl2 rfl) (ev_lenS (n := ns.length) (evb rfl (Ex.refl _) hl2) fun v H1 h => ⟨b, _, h.1, .inl h.2, by rw [List.length_map]⟩))) (fun hq H3 e3 => ?_) (fun hq H3 e3 => ?_)
      · have hl3 := e3.lst hl2
        refine q_set (T := T) (k := 2) rfl (e2.trans e3) nB hl3 rfl (ev_I (i := sd * 48271 + 11) (j := 2147483647) (ev_int1 (ev_I0 (g := fun i j => V.int (i + j)) (ev_I (g := fun i j => V.int (i * j)) (ev_row (j := 0) (k := 2) rfl hl3 rfl) ev_c (.inr (by decide))) ev_c)) ev_c (by decide)) fun H4 e4 hl4 => ?_
        refine s_ret (T := T) (ev_I (j := many) (ev_int1 (ev_I (j := 7) (ev_row (j := 0) (k := 2) rfl hl4 rfl) ev_c (wide_div (b := 20) (by decide) (by decide) (by decide) (by decide)))) (ev_var (i := 1) rfl) (by omega)) fun v H5 e5 hv => ?_
        subst hv
        exact fin (e4.trans e5) (e5.lst hl4) (by omega) (md _).1 (md _).2
      · have hl3 := e3.lst hl2
        have hq' : i + 1 ≤ (ns.length : Int) := by simpa using hq
        obtain ⟨cell, hcell⟩ : ∃ c, ns[i.toNat]? = some c := ⟨_, List.getElem?_eq_getElem (by omega)⟩
        have ei : i + 1 - 1 = ((i.toNat : Nat) : Int) := by omega
        have evc : Ev T (tOp (rIxL K) (tOp (rIxL K) (tVar 0) (tC (.int 0))) (tOp (rI0 fun i j => .int (i - j)) (tOp (rIxL K) (tVar 0) (tC (.int 1))) (tC (.int 1)))) [some (.ref a), some (.int many), none, none] H3 (fun v _ => v = .int cell) := fun H4 e4 Q q =>
          evb rfl e3 hl3 H4 e4 _ fun x H5 e5 ⟨hx, hs⟩ => (ev_I0 (g := fun i j => V.int (i - j)) (i := i + 1) (j := 1) (ev_row (j := 0) (k := 1) rfl (e5.lst (e4.lst hl3)) rfl) ev_c).go fun y H6 e6 hy =>
            ⟨b, _, i + 1 - 1, .int cell, hx, hy, e6.sql hs, by rw [ei]; exact atI_nat (by rw [List.getElem?_map, hcell]; rfl), q _ _ (e5.trans e6) rfl⟩
        refine q_asg (T := T) evc fun v3 H4 e4 hv3 => ?_
        subst hv3
        have hl4 := e4.lst hl3
        refine q_set (T := T) (k := 2) rfl ((e2.trans e3).trans e4) nB hl4 rfl (ev_I (i := sd * 48271 + cell + 11) (j := 2147483647) (ev_int1 (ev_I0 (g := fun i j => V.int (i + j)) (ev_I0 (g := fun i j => V.int (i + j)) (ev_I (g := fun i j => V.int (i * j)) (ev_row (j := 0) (k := 2) rfl hl4 rfl) ev_c (.inr (by decide))) (ev_var (i := 3) rfl)) ev_c)) ev_c (by decide)) fun H5 e5 hl5 => ?_
        have rt : ∀ {H6 : Hp} {x : Int}, Ex T (hid a H) H6 → H6 a = some (.lst [.ref b, .int (i + 1), .int ((sd * 48271 + cell + 11).fmod 2147483647), .int x]) → tRet (tOp (rI (fun _ j => j ≠ 0) fun i j => .int (i.fmod j)) (tCB (fun xs H Q => (∃ i, xs = [.int i] ∧ Q (.int i) H) ∨ ∃ k, xs = [.bl k] ∧ Q (.int (if k then 1 else 0)) H) (tCons (tVar 3) tNil)) (tVar 1)) { nx := fun _ H' => Q .non H', rt := Q } [some (.ref a), some (.int many), none, some (.int cell)] H6 := fun {H6 x} e6 hl6 => by
          refine s_ret (T := T) (ev_I (i := cell) (j := many) (ev_int1 (ev_var (i := 3) rfl)) (ev_var (i := 1) rfl) (by omega)) fun v H7 e7 hv => ?_
          subst hv
          exact fin (e6.trans e7) (e7.lst hl6) (by omega) (md _).1 (md _).2
        refine q_if (T := T) (et_test (ev_I0 (g := fun i j => V.bl (decide (j ≤ i))) (ev_var (i := 3) rfl) (ev_I (i := 10) (j := 18) ev_c ev_c ⟨by decide, by decide, by decide⟩))) (fun hz H6 e6 => ?_) (fun hz H6 e6 => ?_)
        · exact s_set (T := T) (k := 3) rfl (e5.trans e6) nB (e6.lst hl5) rfl (ev_I (i := cell) (j := many) (ev_var (i := 3) rfl) (ev_var (i := 1) rfl) hdiv) fun H7 e7 hl7 => rt e7 hl7
        · exact rt (e5.trans e6) (e6.lst hl5)
theorem ev_taken {σ : L2.St} {ta : TA} {many : Int} {Q : VK} (hR : RowAt K a sl sn H) (h : EvA T ta σ H (fun vs _ => vs = [.ref a, .int many])) (h1 : 1 ≤ many) (h2 : many ≤ 1000) (q : PureR T K a sl sn (fun v _ => ∃ r, v = .int r ∧ 0 ≤ r ∧ r < many) H Q) : tDfn (sp_taken T K) ta σ H Q :=
  h H (Ex.refl H) _ fun vs H1 e ev => by
    subst ev
    refine ⟨a, sl, sn, many, rfl, hR.ex e, h1, h2, fun v H' e' r p => q v H' ?_ r p⟩
    obtain ⟨xs, hx⟩ := hR.lst
    exact hid_on (hid_refl.trans e) hid_same (e.lst hx) e'
end
end WI
set_option maxRecDepth 100000
/-! The law's own defs: a yard drawn, some walls drawn. -/
namespace WI
open PySem PySem.Spec L2 LamX RZ StX
section
variable {T : LTab} {P : Program} {w : World} {K : PySem.W.Frag} {mg : Str → Option Value} {base : Heap} {a sl : Addr} {sn : List Int} {H H' H1 H2 B : Hp} {xs : List V}
/-- it comes to what P says, the row may have moved -/
def EvR (T : LTab) (K : PySem.W.Frag) (a sl : Addr) (sn : List Int) (te : TE) (σ : L2.St) (H : Hp) (Pv : V → Hp → Prop) : Prop := ∀ Q : VK, PureR T K a sl sn Pv H Q → te σ H Q
theorem hid_trans (h : H a = some (.lst xs)) (e1 : Ex T (hid a H) H1) {ys : List V} (h1 : H1 a = some (.lst ys)) (e2 : Ex T (hid a H1) H2) : Ex T (hid a H) H2 := hid_on e1 hid_same h1 e2
theorem hid_ex (e : Ex T H H1) : Ex T (hid a H) H1 := hid_refl.trans e
def drawnV (many : Int) : V → Hp → Prop := fun v _ => ∃ r, v = .int r ∧ 0 ≤ r ∧ r < many
theorem er_taken {σ : L2.St} {ta : TA} {many : Int} (hR : RowAt K a sl sn H) (h : EvA T ta σ H (fun vs _ => vs = [.ref a, .int many])) (h1 : 1 ≤ many) (h2 : many ≤ 1000) : EvR T K a sl sn (tDfn (sp_taken T K) ta) σ H (drawnV many) := fun Q q => ev_taken hR h h1 h2 q
theorem EvR.imp {te : TE} {σ : L2.St} {Pa Pb : V → Hp → Prop} (h : EvR T K a sl sn te σ H Pa) (i : ∀ v H', Pa v H' → Pb v H') : EvR T K a sl sn te σ H Pb := fun Q q => h Q fun v H' e r p => q v H' e r (i v H' p)
theorem hid_step (hR : RowAt K a sl sn H) (e : Ex T H H1) (e2 : Ex T (hid a H1) H2) : Ex T (hid a H) H2 := by
  obtain ⟨xs, hx⟩ := hR.lst
  exact hid_trans hx (hid_ex e) (e.lst hx) e2
theorem hid_step2 (hR : RowAt K a sl sn H1) (e : Ex T (hid a H) H1) (e2 : Ex T (hid a H1) H2) : Ex T (hid a H) H2 := by
  obtain ⟨xs, hx⟩ := hR.lst
  exact hid_on e hid_same hx e2
theorem hid_stepB (hR : RowAt K a sl sn H1) (e : Ex T B H1) (hB : B a = none) (e2 : Ex T (hid a H1) H2) : Ex T B H2 := by
  obtain ⟨xs, hx⟩ := hR.lst
  exact hid_on e hB hx e2
theorem hid_tkR (hR : RowAt K a sl sn H) (e : Ex T (hid a H) H') : Tk H H' := by
  obtain ⟨xs, hx⟩ := hR.lst
  exact hid_tk hx e
theorem er_of {te : TE} {σ : L2.St} {Pa : V → Hp → Prop} (hR : RowAt K a sl sn H) (h : Ev T te σ H Pa) : EvR T K a sl sn te σ H Pa := fun Q q => h H (Ex.refl H) Q fun v H1 e p => q v H1 (hid_ex e) (hR.ex e) p
/-- g(i, drawn) -/
theorem er_I0 {σ : L2.St} {ta tb : TE} {g : Int → Int → V} {i many : Int} (hR : RowAt K a sl sn H) (ha : Ev T ta σ H (fun v _ => v = .int i)) (hb : ∀ H1, Ex T H H1 → RowAt K a sl sn H1 → EvR T K a sl sn tb σ H1 (drawnV many)) : EvR T K a sl sn (tOp (rI0 g) ta tb) σ H (fun v _ => ∃ r, v = g i r ∧ 0 ≤ r ∧ r < many) := fun Q q =>
  ha H (Ex.refl H) _ fun v H1 e1 hv => hb H1 e1 (hR.ex e1) _ fun y H2 e2 r2 ⟨r, hr, h0, h1⟩ => by
    subst hv hr
    exact ⟨i, r, rfl, rfl, q _ _ (hid_step hR e1 e2) r2 ⟨r, rfl, h0, h1⟩⟩
/-- drawn > 0 -/
def EvTR (T : LTab) (K : PySem.W.Frag) (a sl : Addr) (sn : List Int) (tt : L2.TT) (σ : L2.St) (H : Hp) (C : Bool → Prop) : Prop := ∀ Q : Bool → Hp → Prop, (∀ b H1, Ex T (hid a H) H1 → RowAt K a sl sn H1 → C b → Q b H1) → tt σ H Q
theorem er_gt {σ : L2.St} {ta tb : TE} {many j : Int} (hR : RowAt K a sl sn H) (ha : EvR T K a sl sn ta σ H (drawnV many)) (hb : ∀ H1, Ev T tb σ H1 (fun v _ => v = .int j)) : EvTR T K a sl sn (tTest (tOp (rI0 fun i j => V.bl (decide (j < i))) ta tb)) σ H (fun _ => True) := fun Q q =>
  ha _ fun v H1 e1 r1 ⟨r, hv, _, _⟩ => by
    refine (hb H1).go fun y H2 e2 hy => ?_
    subst hv hy
    exact ⟨r, j, rfl, rfl, _, rfl, q _ _ (hid_step2 r1 e1 (hid_ex e2)) (r1.ex e2) trivial⟩
theorem er_and {σ : L2.St} {tt tu : L2.TT} {b0 : Bool} (hR : RowAt K a sl sn H) (h1 : EvT T tt σ H b0) (h2 : ∀ H1, Ex T H H1 → RowAt K a sl sn H1 → EvTR T K a sl sn tu σ H1 (fun _ => True)) : EvTR T K a sl sn (tAnd tt tu) σ H (fun b => b = true → b0 = true) := fun Q q =>
  h1 H (Ex.refl H) _ fun H1 e1 => by
    cases b0 with
    | true =>
      show tu σ H1 Q
      exact h2 H1 e1 (hR.ex e1) Q fun b H2 e2 r2 _ => q b H2 (hid_step hR e1 e2) r2 fun _ => rfl
    | false =>
      show Q false H1
      exact q _ _ (hid_ex e1) (hR.ex e1) fun z => by cases z
theorem s_ifR {σ : L2.St} {tt : L2.TT} {tu tw : TS} {D : Ends} {C : Bool → Prop} (h : EvTR T K a sl sn tt σ H C) (h1 : ∀ H1, Ex T (hid a H) H1 → RowAt K a sl sn H1 → C true → tu D σ H1) (h2 : ∀ H1, Ex T (hid a H) H1 → RowAt K a sl sn H1 → C false → tw D σ H1) : tIfS tt tu tw D σ H := h _ fun b H1 e r c => by
  cases b with
  | true => exact h1 H1 e r c
  | false => exact h2 H1 e r c
theorem er_if {σ : L2.St} {tt : L2.TT} {ta tb : TE} {C : Bool → Prop} {Pa : V → Hp → Prop} (h : EvTR T K a sl sn tt σ H C) (ha : ∀ H1, Ex T (hid a H) H1 → RowAt K a sl sn H1 → EvR T K a sl sn ta σ H1 Pa) (hb : ∀ H1, Ex T (hid a H) H1 → RowAt K a sl sn H1 → EvR T K a sl sn tb σ H1 Pa) : EvR T K a sl sn (tIf tt ta tb) σ H Pa := fun Q q => h _ fun b H1 e r c => by
  cases b with
  | true =>
    show ta σ H1 Q
    exact ha H1 e r Q fun v H2 e2 r2 p => q v H2 (hid_step2 r e e2) r2 p
  | false =>
    show tb σ H1 Q
    exact hb H1 e r Q fun v H2 e2 r2 p => q v H2 (hid_step2 r e e2) r2 p
theorem q_asgR {σ : L2.St} {te : TE} {i : Nat} {D : Ends} {tz : TS} {Pa : V → Hp → Prop} (h : EvR T K a sl sn te σ H Pa) (k : ∀ v H1, Ex T (hid a H) H1 → RowAt K a sl sn H1 → Pa v H1 → tz D (σ.set i (some v)) H1) : tSeq (tAsg te (gName i)) tz D σ H := h _ k
theorem s_appR {σ : L2.St} {te : TE} {i : Nat} {l : Addr} {D : Ends} {Pa : V → Hp → Prop} (hs : σ[i]? = some (some (.ref l))) (hl : H l = some (.lst xs)) (n : l ≠ a) (hz : xs.length ≤ 50000) (h : EvR T K a sl sn te σ H Pa)
    (k : ∀ v H1, Ex T (hid a H) H1 → RowAt K a sl sn H1 → Pa v H1 → D.nx σ (upd H1 l (.lst (xs ++ [v])))) : tDrop (tBM K "list" rAppend (tVar i) (tCons te tNil)) D σ H :=
  ⟨_, hs, .inl ⟨rfl, _, SqL.of hl⟩, h _ fun v H1 e r p => ⟨l, xs, v, rfl, rfl, hid_lst e n hl, Nat.lt_of_le_of_lt hz (by decide), k v H1 e r p⟩⟩
/-- a wall displayed, its side drawn -/
theorem er_wall {σ : L2.St} {ta tb tc : TE} {lo hi : Int} (hR : RowAt K a sl sn H) (ha : Ev T ta σ H (fun v _ => v = .int lo)) (hb : ∀ H1, Ev T tb σ H1 (fun v _ => v = .int hi)) (hc : ∀ H1, Ex T H H1 → RowAt K a sl sn H1 → EvR T K a sl sn tc σ H1 (drawnV 3)) :
    EvR T K a sl sn (tTup (tCons ta (tCons tb (tCons tc tNil)))) σ H (fun v H' => ∃ s, 0 ≤ s ∧ s < 3 ∧ WV K ⟨lo, hi, s⟩ v H') := fun Q q =>
  ha H (Ex.refl H) _ fun x H1 e1 hx => hb H1 H1 (Ex.refl H1) _ fun y H2 e2 hy => hc H2 (e1.trans e2) (hR.ex (e1.trans e2)) _ fun z H3 e3 r3 ⟨s, hz, h0, h1⟩ => by
    subst hx hy hz
    refine ⟨by show 3 ≤ sizeLine; decide, fun p np => q _ _ ?_ (r3.ex (T := T) (Ex.new np)) ⟨s, h0, h1, p, rfl, .of upd_same⟩⟩
    exact (hid_step hR (e1.trans e2) e3).trans (Ex.new np)
def sp_law_yard (T : LTab) (K : PySem.W.Frag) : Sp := fun vs H Q _ => ∃ (a sl : Addr) (sn : List Int) (rooms shuts : Int), vs = [.ref a, .int rooms, .int shuts, .int 1] ∧ RowAt K a sl sn H ∧ 1 ≤ rooms ∧ rooms ≤ 9 ∧ 0 ≤ shuts ∧ shuts ≤ 12 ∧ PureR T K a sl sn (fun v H' => ∃ many ws, YT K many ws v H' ∧ YOk many ws ∧ (ws.length : Int) ≤ shuts) H Q
/-- the walls found so far -/
def Fnd (T : LTab) (K : PySem.W.Frag) (a sl : Addr) (sn : List Int) (B : Hp) (l : Addr) (many : Int) (n : Nat) (H' : Hp) : Prop := Ex T B H' ∧ RowAt K a sl sn H' ∧ ∃ ys ws, H' l = some (.lst ys) ∧ Paired (fun v w => WV K w v H') ys ws ∧ (∀ w ∈ ws, WallOk many w) ∧ ws.length = n
theorem Fnd.row {l : Addr} {many : Int} {n : Nat} (f : Fnd T K a sl sn B l many n H) (hB : B a = none) (hl : l ≠ a) (e : Ex T (hid a H) H1) (r : RowAt K a sl sn H1) : Fnd T K a sl sn B l many n H1 := by
  obtain ⟨e0, r0, ys, ws, h1, h2, h3, h4⟩ := f
  have tk := hid_tkR r0 e
  exact ⟨hid_stepB r0 e0 hB e, r, ys, ws, hid_lst e hl h1, paired_mono (fun v w q => WV.stb w _ _ _ q tk) h2, h3, h4⟩
theorem Fnd.ex {l : Addr} {many : Int} {n : Nat} (f : Fnd T K a sl sn B l many n H) (e : Ex T H H1) : Fnd T K a sl sn B l many n H1 := by
  obtain ⟨e0, r0, ys, ws, h1, h2, h3, h4⟩ := f
  exact ⟨e0.trans e, r0.ex e, ys, ws, e.lst h1, paired_mono (fun v w q => WV.stb w _ _ _ q e.tk) h2, h3, h4⟩
theorem row_upd {l : Addr} {o : HO} (r : RowAt K a sl sn H) (hl : l ≠ a) (hBa : B a = none) (e : Ex T B (upd H l o)) (hs : SqL K B sl (sn.map V.int)) : RowAt K a sl sn (upd H l o) := by
  obtain ⟨i, sd, rest, h1, h2, h3⟩ := r
  exact ⟨i, sd, rest, by rw [upd_ne hl.symm]; exact h1, hid_sqlB e hBa hs, h3⟩
theorem row_hid (r : RowAt K a sl sn H) : SqL K (hid a H) sl (sn.map V.int) := by
  obtain ⟨i, sd, rest, h1, h2, h3⟩ := r
  exact h2
theorem Fnd.add {l : Addr} {many : Int} {n : Nat} {v : V} {wl : Wall} (f : Fnd T K a sl sn B l many n H) (hl : l ≠ a) (hBa : B a = none) (hB : B l = none) (hs : SqL K B sl (sn.map V.int)) {ys : List V} (hy : H l = some (.lst ys)) (hv : WV K wl v H) (ho : WallOk many wl) : Fnd T K a sl sn B l many (n + 1) (upd H l (.lst (ys ++ [v]))) := by
  obtain ⟨e0, r0, ys', ws, h1, h2, h3, h4⟩ := f
  rw [hy] at h1
  cases h1
  have tk : Tk H (upd H l (.lst (ys ++ [v]))) := Tk.upd hy
  have e1 : Ex T B (upd H l (.lst (ys ++ [v]))) := e0.mut hB hy
  refine ⟨e1, row_upd r0 hl hBa e1 hs, ys ++ [v], ws ++ [wl], upd_same, Paired.snoc (paired_mono (fun v w q => WV.stb w _ _ _ q tk) h2) (WV.stb wl _ _ _ hv tk), fun w hw => ?_, by rw [List.length_append, h4]; rfl⟩
  rcases List.mem_append.mp hw with hw | hw
  · exact h3 w hw
  · rw [List.mem_singleton.mp hw]
    exact ho
theorem Fnd.ll {l : Addr} {many : Int} {n : Nat} (f : Fnd T K a sl sn B l many n H) : ∃ ws, LL (WV K) ws (.ref l) H ∧ (∀ w ∈ ws, WallOk many w) ∧ ws.length = n := by
  obtain ⟨e0, r0, ys, ws, h1, h2, h3, h4⟩ := f
  exact ⟨ws, ⟨l, ys, rfl, h1, h2⟩, h3, h4⟩
theorem Fnd.at_ {l : Addr} {many : Int} {n : Nat} (f : Fnd T K a sl sn B l many n H) : ∃ ys, H l = some (.lst ys) ∧ ys.length = n := by
  obtain ⟨e0, r0, ys, ws, h1, h2, h3, h4⟩ := f
  exact ⟨ys, h1, by rw [Paired.length h2]; exact h4⟩
theorem er_taken' {σ : L2.St} {tx : TE} {many : Int} (hR : RowAt K a sl sn H) (h0 : σ[0]? = some (some (.ref a))) (h : Ev T tx σ H (fun v _ => v = .int many)) (h1 : 1 ≤ many) (h2 : many ≤ 1000) : EvR T K a sl sn (tDfn (sp_taken T K) (tCons (tVar 0) (tCons tx tNil))) σ H (drawnV many) :=
  er_taken hR (ea_consV (ev_var h0) (ea_consV h ea_nil)) h1 h2
theorem ok_law_yard {f : Addr} {fd : FuncData} (F : Fun K "_law_yard" "_law_yard" s_law_yard f fd) (G : Bn mg) (D_law_taken : Dfn P w K mg base 1 "_law_taken" ["_law_row", "_law_many"] (sp_taken T K)) : FnOk P w K mg base CX0 2 f fd ["_law_row", "_law_rooms", "_law_shuts", "_law_either"] (sp_law_yard T K) := by
  refine F.ok sc_law_yard (fun vs H Q E h => ?_) (fun cdv A outer s H vs Q E hr h => ?_)
  · obtain ⟨a, sl, sn, rooms, shuts, rfl, _⟩ := h
    rfl
  · obtain ⟨a, sl, sn, rooms, shuts, rfl, hR, h1, h2, h3, h4, q⟩ := h
    refine ⟨_, (pss_cons (ps_set (i := 4) sc_law_yard.nd rfl (by first | exact Or.inl rfl | exact Or.inr rfl) (pe_op op_add pe_int (pe_dfn D_law_taken (hr.mono (by decide)) (pa_cons (pv 0) (pa_cons (pv 1) pa_nil)))))
      (pss_cons (ps_if (pt_cmpR op_eq (pv 4) pe_int (nomark _)) (pss_one (ps_ret (pe_tup (pa_cons pe_int (pa_cons (pe_tup pa_nil) pa_nil))))) pss_nil)
      (pss_cons (ps_set (i := 5) sc_law_yard.nd rfl (by first | exact Or.inl rfl | exact Or.inr rfl) (pe_lst pa_nil))
      (pss_cons (ps_for PassesOwn.never rfl (pi_range2 (by rfl) G.range_ (pa_cons pe_int (pa_cons (pv 4) pa_nil))) (pg_name (i := 6) sc_law_yard.nd rfl (by first | exact Or.inl rfl | exact Or.inr rfl)) (pss_one (ps_if (PW.pt (pw_and (pt_cmpR op_lt (pe_callB (k_len K rfl) (by rfl) G.len_ PySem.boot_len (pa_cons (pv 5) pa_nil)) (pv 2) (nomark _)) (pw_and1 (pt_cmpR op_gt (pe_dfn D_law_taken (hr.mono (by decide)) (pa_cons (pv 0) (pa_cons pe_int pa_nil))) pe_int (nomark _))))) (pss_cons (ps_set (i := 7) sc_law_yard.nd rfl (by first | exact Or.inl rfl | exact Or.inr rfl) (pe_dfn D_law_taken (hr.mono (by decide)) (pa_cons (pv 0) (pa_cons (pv 6) pa_nil))))
      (pss_one (ps_expr (pe_bm PySem.F.plainAttrs_list PySem.F.slot_list_append PySem.F.type_list_append mt_append (pv 5) (pa_cons (pe_tup (pa_cons (pv 7) (pa_cons (pv 6) (pa_cons (pe_ifExp (pt_cmpR op_gt (pe_dfn D_law_taken (hr.mono (by decide)) (pa_cons (pv 0) (pa_cons pe_int pa_nil))) pe_int (nomark _)) pe_int (pe_dfn D_law_taken (hr.mono (by decide)) (pa_cons (pv 0) (pa_cons (pe_op op_add pe_int (pv 3)) pa_nil)))) pa_nil)))) pa_nil))))) pss_nil)))
      (pss_cons (ps_for PassesOwn.never rfl (pi_range1 (by rfl) G.range_ (pa_cons (pe_dfn D_law_taken (hr.mono (by decide)) (pa_cons (pv 0) (pa_cons (pe_op op_add (pe_op op_sub (pv 2) (pe_callB (k_len K rfl) (by rfl) G.len_ PySem.boot_len (pa_cons (pv 5) pa_nil))) pe_int) pa_nil))) pa_nil)) (pg_name (i := 8) sc_law_yard.nd rfl (by first | exact Or.inl rfl | exact Or.inr rfl)) (pss_cons (ps_set (i := 7) sc_law_yard.nd rfl (by first | exact Or.inl rfl | exact Or.inr rfl) (pe_dfn D_law_taken (hr.mono (by decide)) (pa_cons (pv 0) (pa_cons (pe_op op_sub (pv 4) pe_int) pa_nil))))
      (pss_cons (ps_set (i := 9) sc_law_yard.nd rfl (by first | exact Or.inl rfl | exact Or.inr rfl) (pe_op op_add (pe_op op_add (pv 7) pe_int) (pe_dfn D_law_taken (hr.mono (by decide)) (pa_cons (pv 0) (pa_cons (pe_op op_sub (pe_op op_sub (pv 4) pe_int) (pv 7)) pa_nil)))))
      (pss_one (ps_expr (pe_bm PySem.F.plainAttrs_list PySem.F.slot_list_append PySem.F.type_list_append mt_append (pv 5) (pa_cons (pe_tup (pa_cons (pv 7) (pa_cons (pv 9) (pa_cons (pe_dfn D_law_taken (hr.mono (by decide)) (pa_cons (pv 0) (pa_cons (pe_op op_add pe_int (pv 3)) pa_nil))) pa_nil)))) pa_nil)))))))
      (pss_one (ps_ret (pe_tup (pa_cons (pv 4) (pa_cons (k_tupleOf K (by rfl) G.tuple_ (pv 5) rfl) pa_nil)))))))))), ?_⟩
    have hsB := row_hid hR
    have nB : hid a H a = none := hid_same
    refine q_asgR (T := T) (K := K) (a := a) (sl := sl) (sn := sn) (er_I0 (g := fun i j => V.int (i + j)) (i := 1) (many := rooms) hR ev_c fun H1 e1 r1 => er_taken r1 (ea_consV (ev_var (i := 0) rfl) (ea_consV (ev_var (i := 1) rfl) ea_nil)) h1 (by omega)) fun v4 H1 e1 r1 ⟨r, hv, r0, rm⟩ => ?_
    subst hv
    refine q_if (T := T) (et_test (ev_eqS (x := .int (1 + r)) (y := .int 1) rfl (ev_var (i := 4) rfl) ev_c)) (fun h5 H2 e2 => ?_) (fun h5 H2 e2 => ?_)
    · refine s_ret (T := T) (ev_yardTup (K := K) (many := 1) (ws := []) ev_c fun H3 e3 Q q => ?_) fun v H3 e3 hv => ?_
      · exact ⟨Nat.zero_le _, fun p np => q _ _ (Ex.new np) ⟨p, [], rfl, .of upd_same, .nil⟩⟩
      · exact q v H3 (hid_step2 r1 e1 (hid_ex (e2.trans e3))) (r1.ex (e2.trans e3)) ⟨1, [], hv, ⟨by omega, by omega, by simp, fun w h => by cases h⟩, h3⟩
    · have hr1 : 1 ≤ r := by
        simp at h5
        omega
      refine ⟨Nat.zero_le _, fun l nl => ?_⟩
      have eB2 : Ex T (hid a H) H2 := e1.trans e2
      have nBl : hid a H l = none := eB2.back l nl
      have la : l ≠ a := fun z => by
        obtain ⟨xs, hx⟩ := (r1.ex e2).lst
        rw [z, hx] at nl
        cases nl
      have F0 : Fnd T K a sl sn (hid a H) l (1 + r) 0 (upd H2 l (.lst [])) := ⟨eB2.trans (Ex.new nl), (r1.ex e2).ex (T := T) (Ex.new nl), [], [], upd_same, .nil, (fun w h => by cases h), rfl⟩
      have three : (2 : Int) + 1 = 3 := rfl
      refine ⟨_, rfl, 1, 1 + r, rfl, ⟨by decide, by decide, by omega, by omega⟩, for_range (lo := 1) (n := (1 + r - 1).toNat) (fun i σ H' => ∃ x6 x7 x8 x9 n, σ = [some (.ref a), some (.int rooms), some (.int shuts), some (.int 1), some (.int (1 + r)), some (.ref l), x6, x7, x8, x9] ∧ Fnd T K a sl sn (hid a H) l (1 + r) n H' ∧ (n : Int) ≤ shuts)
        ⟨_, _, _, _, 0, rfl, F0, h3⟩ ?_ ?_⟩
      · rintro i σ H3 hi ⟨x6, x7, x8, x9, n, rfl, f3, hn⟩
        obtain ⟨ws3, l3, _, lw3⟩ := f3.ll
        refine s_ifR (T := T) (K := K) (a := a) (sl := sl) (sn := sn) (er_and (b0 := decide ((n : Int) < shuts)) f3.2.1 (et_is (et_test (ev_I0 (g := fun i j => V.bl (decide (i < j))) (ev_lenL (K := K) (ev_varL (i := 5) WV.stb rfl l3)) (ev_var (i := 2) rfl))) (by rw [lw3])) fun H4 e4 r4 => er_gt r4 (er_taken' r4 rfl ev_c (by decide) (by decide)) fun _ => ev_c) (fun H4 e4 r4 hc => ?_) (fun H4 e4 r4 hc => ?_)
        · have hlt : (n : Int) < shuts := of_decide_eq_true (hc rfl)
          have f4 := f3.row nB la e4 r4
          refine q_asgR (T := T) (K := K) (a := a) (sl := sl) (sn := sn) (er_taken' (many := 1 + (i : Int)) r4 rfl (ev_var (i := 6) rfl) (by omega) (by omega)) fun v7 H5 e5 r5 ⟨lo, hv7, lo0, lom⟩ => ?_
          subst hv7
          have f5 := f4.row nB la e5 r5
          obtain ⟨ys5, hy5, hyl⟩ := f5.at_
          refine s_appR (T := T) (K := K) (a := a) (sl := sl) (sn := sn) (i := 5) rfl hy5 la (by omega) (er_wall (lo := lo) (hi := 1 + (i : Int)) r5 (ev_var (i := 7) rfl) (fun _ => ev_var (i := 6) rfl) fun H6 e6 r6 => er_if (er_gt r6 (er_taken' r6 rfl ev_c (by decide) (by decide)) fun _ => ev_c) (fun H7 e7 r7 => (er_of r7 ev_c).imp fun v H' hv => ⟨0, hv, by decide, by decide⟩)
            fun H7 e7 r7 => er_taken' (many := 3) r7 rfl (ev_I0 (g := fun i j => V.int (i + j)) (i := 2) (j := 1) ev_c (ev_var (i := 3) rfl)) (by decide) (by decide)) fun v H6 e6 r6 ⟨s, s0, s3, hv⟩ => ?_
          have f6 := f5.row nB la e6 r6
          refine ⟨_, _, _, _, n + 1, rfl, f6.add la nB nBl hsB (hid_lst e6 la hy5) hv ⟨lo0, lom, by show 1 + (i : Int) < 1 + r; omega, by show s = 0 ∨ s = 1 ∨ s = 2; omega⟩, by omega⟩
        · exact ⟨_, _, _, _, n, rfl, f3.row nB la e4 r4, hn⟩
      · rintro σ H3 ⟨x6, x7, x8, x9, n, rfl, f3, hn⟩
        obtain ⟨ws3, l3, _, lw3⟩ := f3.ll
        have hlen : ∀ H4, Ex T H3 H4 → Ev T (tCB (fun xs H Q => ∃ p ys, xs = [.ref p] ∧ (SqL K H p ys ∨ SqT K H p ys) ∧ Q (.int ys.length) H) (tCons (tVar 5) tNil)) [some (.ref a), some (.int rooms), some (.int shuts), some (.int 1), some (.int (1 + r)), some (.ref l), x6, x7, x8, x9] H4 (fun v _ => v = .int (n : Int)) := fun H4 e4 => (ev_lenL (ev_varL (i := 5) WV.stb rfl (l3.ex WV.stb e4))).imp fun v _ _ h => by rw [h, lw3]
        refine er_taken' (T := T) (K := K) (many := shuts - (n : Int) + 1) f3.2.1 rfl (ev_I0 (g := fun i j => V.int (i + j)) (ev_I0 (g := fun i j => V.int (i - j)) (ev_var (i := 2) rfl) (hlen _ (Ex.refl _))) ev_c) (by omega) (by omega) _ fun v H4 e4 r4 ⟨t, hv, t0, tm⟩ => ?_
        subst hv
        have f4 := f3.row nB la e4 r4
        refine ⟨t, rfl, by omega, by omega, for_range (lo := 0) (n := t.toNat) (fun i σ H' => ∃ x6 x7 x8 x9, σ = [some (.ref a), some (.int rooms), some (.int shuts), some (.int 1), some (.int (1 + r)), some (.ref l), x6, x7, x8, x9] ∧ Fnd T K a sl sn (hid a H) l (1 + r) (n + i) H') ⟨_, _, _, _, rfl, f4⟩ ?_ ?_⟩
        · rintro i σ H5 hi ⟨x6, x7, x8, x9, rfl, f5⟩
          refine q_asgR (T := T) (K := K) (a := a) (sl := sl) (sn := sn) (er_taken' (many := 1 + r - 1) f5.2.1 rfl (ev_I0 (g := fun i j => V.int (i - j)) (i := 1 + r) (j := 1) (ev_var (i := 4) rfl) ev_c) (by omega) (by omega)) fun v7 H6 e6 r6 ⟨lo, hv7, lo0, lom⟩ => ?_
          subst hv7
          have f6 := f5.row nB la e6 r6
          refine q_asgR (T := T) (K := K) (a := a) (sl := sl) (sn := sn) (er_I0 (g := fun i j => V.int (i + j)) (i := lo + 1) (many := 1 + r - 1 - lo) r6 (ev_I0 (g := fun i j => V.int (i + j)) (i := lo) (j := 1) (ev_var (i := 7) rfl) ev_c) fun H7 e7 r7 => er_taken' (many := 1 + r - 1 - lo) r7 rfl (ev_I0 (g := fun i j => V.int (i - j)) (i := 1 + r - 1) (j := lo) (ev_I0 (g := fun i j => V.int (i - j)) (i := 1 + r) (j := 1) (ev_var (i := 4) rfl) ev_c) (ev_var (i := 7) rfl)) (by omega) (by omega)) fun v9 H7 e7 r7 ⟨up, hv9, up0, upm⟩ => ?_
          subst hv9
          have f7 := f6.row nB la e7 r7
          obtain ⟨ys7, hy7, hyl⟩ := f7.at_
          refine s_appR (T := T) (K := K) (a := a) (sl := sl) (sn := sn) (i := 5) rfl hy7 la (by omega) (er_wall (lo := lo) (hi := lo + 1 + up) r7 (ev_var (i := 7) rfl) (fun _ => ev_var (i := 9) rfl) fun H8 e8 r8 => er_taken' (many := 3) r8 rfl (ev_I0 (g := fun i j => V.int (i + j)) (i := 2) (j := 1) ev_c (ev_var (i := 3) rfl)) (by decide) (by decide)) fun v H8 e8 r8 ⟨s, s0, s3, hv⟩ => ?_
          have f8 := f7.row nB la e8 r8
          refine ⟨_, _, _, _, rfl, ?_⟩
          exact f8.add la nB nBl hsB (hid_lst e8 la hy7) hv ⟨lo0, by show lo < lo + 1 + up; omega, by show lo + 1 + up < 1 + r; omega, by show s = 0 ∨ s = 1 ∨ s = 2; omega⟩
        · rintro σ H5 ⟨x6, x7, x8, x9, rfl, f5⟩
          obtain ⟨ws5, l5, ow5, lw5⟩ := f5.ll
          refine s_ret (T := T) (ev_yardTup (K := K) (many := 1 + r) (ev_var (i := 4) rfl) (ev_tupleOf (K := K) WV.stb (ev_varL (i := 5) WV.stb rfl l5))) fun v H6 e6 hv => ?_
          exact q v H6 (f5.1.trans e6) (f5.2.1.ex e6) ⟨1 + r, ws5, hv, ⟨by omega, by omega, by omega, ow5⟩, by omega⟩
end
end WI
set_option maxRecDepth 100000
/-! The law's own defs: sides, come, heart, chosen, leaves, some. -/
namespace WI
open PySem PySem.Spec L2 LamX RZ StX
section
variable {T : LTab} {P : Program} {w : World} {K : PySem.W.Frag} {mg : Str → Option Value} {base : Heap}
theorem ev_lst3 {α : Type} {Pd : α → V → Hp → Prop} (sP : ∀ d, Stb (Pd d)) {σ : L2.St} {H : Hp} {ta tb tc : TE} {d1 d2 d3 : α} (h1 : Ev T ta σ H (Pd d1)) (h2 : Ev T tb σ H (Pd d2)) (h3 : Ev T tc σ H (Pd d3)) : Ev T (tLst (tCons ta (tCons tb (tCons tc tNil)))) σ H (LL Pd [d1, d2, d3]) := fun H1 e Q q =>
  h1 H1 e _ fun x H2 e2 px => h2 H2 (e.trans e2) _ fun y H3 e3 py => h3 H3 ((e.trans e2).trans e3) _ fun z H4 e4 pz => ⟨by show 3 ≤ sizeLine; decide, fun p np => by
    have n := Ex.new (T := T) (o := .lst [x, y, z]) np
    exact q _ _ (((e2.trans e3).trans e4).trans n) ⟨p, _, rfl, upd_same, .cons ((sP _).ex px ((e3.trans e4).trans n)) (.cons ((sP _).ex py (e4.trans n)) (.cons ((sP _).ex pz n) .nil))⟩⟩
def sp_law_sides (T : LTab) (K : PySem.W.Frag) : Sp := sp_sides_of T K
theorem ok_law_sides {f : Addr} {fd : FuncData} (F : Fun K "_law_sides" "_law_sides" s_law_sides f fd) : FnOk P w K mg base CX0 1 f fd ["_law_shut"] (sp_sides_of T K) := by
  refine F.ok sc_law_sides (fun vs H Q E h => ?_) (fun cdv A outer s H vs Q E hr h => ?_)
  · obtain ⟨v, many, wl, rfl, _⟩ := h
    rfl
  · obtain ⟨v, many, wl, rfl, hv, ho, q⟩ := h
    refine ⟨_, (pss_one (ps_ret (pe_ix (k_ix_list K rfl) (pe_lst (pa_cons (pe_slice (k_sl_tup K rfl) (pv 0) po_none (po_some pe_int)) (pa_cons (pe_slice (k_sl_tup K rfl) (pv 0) (po_some pe_int) (po_some pe_int)) (pa_cons (pe_slice (k_sl_tup K rfl) (pv 0) po_none (po_some pe_int)) pa_nil)))) (pe_ix (k_ix_tup K rfl) (pv 0) pe_int (fun _ _ => rfl)) (fun _ _ => rfl)))), ?_⟩
    have vw : ∀ {H1}, Ex T H H1 → Ev T (tVar 0) [some v] H1 (WV K wl) := fun e => ev_varP (WV.stb wl) rfl ((WV.stb wl).ex hv e)
    have hd : [[wl.lo], [wl.hi], [wl.lo, wl.hi]][wl.sd.toNat]? = some (sides wl) ∧ ((wl.sd.toNat : Nat) : Int) = wl.sd := by
      rcases ho.hs with h | h | h <;> rw [h] <;> refine ⟨?_, rfl⟩ <;> simp [sides, h]
    refine s_ret (ev_ixL (K := K) (P := IT K) (i := wl.sd.toNat) (fun _ => IT.stb) (ev_lst3 (fun _ => IT.stb) (ev_sl (K := K) (ns := wl.l) (ms := [wl.lo]) (vw (Ex.refl _)) eo_no (eo_part ev_c) rfl) (ev_sl (K := K) (ns := wl.l) (ms := [wl.hi]) (vw (Ex.refl _)) (eo_part ev_c) (eo_part ev_c) rfl) (ev_sl (K := K) (ns := wl.l) (ms := [wl.lo, wl.hi]) (vw (Ex.refl _)) eo_no (eo_part ev_c) rfl))
      (by rw [hd.2]; exact ev_ixT (K := K) (P := eqI) (i := 2) (fun _ => stb_eqI) ((vw (Ex.refl _)).imp fun v H5 _ h => IT.tt h) ev_c rfl) hd.1) fun v1 H1 e1 hv1 => q _ _ e1 hv1
theorem come_lenM {many : Int} {ws : List Wall} {ns : List Int} (c : Come many ws ns) : ns.length ≤ many.toNat := by
  have h := length_le_of_subset c.nd (m := evL many.toNat) fun x hx => by
    have := c.rg x hx
    refine List.mem_map.mpr ⟨x.toNat, List.mem_range.mpr (by omega), by omega⟩
  simpa [evL] using h
theorem ok_law_come {f : Addr} {fd : FuncData} (F : Fun K "_law_come" "_law_come" s_law_come f fd) (G : Bn mg) (D_law_sides : Dfn P w K mg base 1 "_law_sides" ["_law_shut"] (sp_sides_of T K)) : FnOk P w K mg base CX0 2 f fd ["_law_yard_here", "_law_lot"] (sp_reached T K) := by
  refine F.ok sc_law_come (fun vs H Q E h => ?_) (fun cdv A outer s H vs Q E hr h => ?_)
  · obtain ⟨v, l, many, ws, rfl, _⟩ := h
    rfl
  · obtain ⟨v, l, many, ws, rfl, hv, ho, ⟨la, rfl, hla⟩, q⟩ := h
    refine ⟨_, (pss_cons (ps_set (i := 2) sc_law_come.nd rfl (by first | exact Or.inl rfl | exact Or.inr rfl) (pe_lst (pa_cons pe_int pa_nil)))
      (pss_cons (ps_for PassesOwn.never rfl (pi_range1 (by rfl) G.range_ (pa_cons (pe_ix (k_ix_tup K rfl) (pv 0) pe_int (fun _ _ => rfl)) pa_nil)) (pg_name (i := 3) sc_law_come.nd rfl (by first | exact Or.inl rfl | exact Or.inr rfl)) (pss_one (ps_for PassesOwn.never rfl (k_tup K (pv 1) rfl) (pg_name (i := 4) sc_law_come.nd rfl (by first | exact Or.inl rfl | exact Or.inr rfl)) (pss_cons (ps_set (i := 5) sc_law_come.nd rfl (by first | exact Or.inl rfl | exact Or.inr rfl) (pe_ix (k_ix_tup K rfl) (pe_ix (k_ix_tup K rfl) (pv 0) pe_int (fun _ _ => rfl)) (pv 4) (fun _ _ => rfl)))
      (pss_one (ps_for PassesOwn.never rfl (k_tup K (pe_dfn D_law_sides (hr.mono (by decide)) (pa_cons (pv 5) pa_nil)) rfl) (pg_name (i := 6) sc_law_come.nd rfl (by first | exact Or.inl rfl | exact Or.inr rfl)) (pss_cons (ps_set (i := 7) sc_law_come.nd rfl (by first | exact Or.inl rfl | exact Or.inr rfl) (pe_op op_sub (pe_op op_add (pe_ix (k_ix_tup K rfl) (pv 5) pe_int (fun _ _ => rfl)) (pe_ix (k_ix_tup K rfl) (pv 5) pe_int (fun _ _ => rfl))) (pv 6)))
      (pss_one (ps_if (PW.pt (pw_and (pt_cmpR (k_in K rfl) (pv 6) (pv 2) rfl) (pw_and1 (pt_cmpR (k_notIn K rfl) (pv 7) (pv 2) rfl)))) (pss_one (ps_expr (pe_bm PySem.F.plainAttrs_list PySem.F.slot_list_append PySem.F.type_list_append mt_append (pv 2) (pa_cons (pv 7) pa_nil)))) pss_nil)))))))))
      (pss_one (ps_ret (pe_callB (k_sortedI K rfl) (by rfl) G.sorted_ (by decide +kernel) (pa_cons (pv 2) pa_nil)))))), ?_⟩
    have g1 := ho.m1
    have g2 := ho.m9
    refine ⟨by show 1 ≤ sizeLine; decide, fun p np => ?_⟩
    have A0 : At T H p [0] (upd H p (.lst [.int 0])) := ⟨Ex.new np, np, upd_same⟩
    have y0 : ∀ {σ H1} , σ[0]? = some (some v) → Ex T H H1 → Ev T (tVar 0) σ H1 (YT K many ws) := fun h e => ev_varP YT.stb h (YT.stb.ex hv e)
    refine (ev_yard0 (K := K) (y0 (σ := [some v, some (.ref la), some (.ref p), none, none, none, none, none]) rfl A0.1) ev_c).go fun x H1 e1 hx => ?_
    subst hx
    refine ⟨many, rfl, by omega, by omega, for_range (lo := 0) (n := many.toNat) (fun t σ H' => ∃ ns x3 x4 x5 x6 x7, σ = [some v, some (.ref la), some (.ref p), x3, x4, x5, x6, x7] ∧ At T H p ns H' ∧ Come many ws ns ∧ (t < ns.length ∨ ∀ w ∈ ws, Shut w ns))
      ⟨[0], _, _, _, _, _, rfl, A0.ex e1, ⟨by simp, by simp, by simp [Reach.zero], by simp; omega⟩, .inl (by simp)⟩ ?_ ?_⟩
    · rintro t σ H2 ht ⟨ns, x3, x4, x5, x6, x7, rfl, A2, C2, hc⟩
      refine ⟨_, rfl, la, rfl, ⟨_, A2.1.sqt hla⟩, for_tup (K := K) (xs := (evL ws.length).map V.int) (fun i σ H' => ∃ ns' b' x4 x5 x6 x7, σ = [some v, some (.ref la), some (.ref p), some (.int (0 + (t : Int))), x4, x5, x6, x7] ∧ At T H p ns' H' ∧ Pass many ws ns (fun ns' => ∀ j w, j < i → ws[j]? = some w → Shut w ns') ns' b')
        ⟨ns, false, _, _, _, _, rfl, A2, C2, Nat.le_refl _, (fun h => by cases h), fun _ => ⟨rfl, fun j w h => absurd h (Nat.not_lt_zero j)⟩⟩ (fun i σ H' _ ⟨_, _, _, _, _, _, _, h, _⟩ => h.1.sqt hla) ?_ ?_⟩
      · rintro i x σ H3 hi ⟨ns', b', x4, x5, x6, x7, rfl, A3, P3⟩
        have il : i < ws.length := by
          have := (List.getElem?_eq_some_iff.mp hi).1
          simpa [evL] using this
        rw [List.getElem?_map, evL_get il] at hi
        cases hi
        have hwl : ws[i]? = some ws[i] := List.getElem?_eq_getElem il
        generalize ws[i] = wl at hwl
        have hmem := List.mem_of_getElem? hwl
        have wok := ho.wo wl hmem
        refine q_asg (T := T) (ev_ixT (K := K) WV.stb (ev_yard1 (y0 rfl A3.1) ev_c) (ev_var (i := 4) rfl) hwl) fun v5 H4 e4 hv5 => ?_
        have A4 := A3.ex e4
        have wv : ∀ {σ H5}, σ[5]? = some (some v5) → Tk H4 H5 → Ev T (tVar 5) σ H5 (WV K wl) := fun h k => ev_varP (WV.stb wl) h (WV.stb wl _ _ _ hv5 k)
        -- for side in sides
        refine (ev_dfn (T := T) (P := IT K (sides wl)) (ea_one (wv (σ := [some v, some (.ref la), some (.ref p), some (.int (0 + (t : Int))), some (.int (i : Int)), some v5, x6, x7]) rfl (Tk.refl _))) fun vs H1 e ⟨v, ev, p⟩ Q q => ⟨v, many, wl, ev, p, wok, q⟩).go fun y H5 e5 ⟨sa, es, hs⟩ => ?_
        subst es
        have A5 := A4.ex e5
        refine ⟨sa, rfl, ⟨_, hs⟩, for_tup (K := K) (xs := (sides wl).map V.int) (fun k σ H' => ∃ ns' b' x6 x7, σ = [some v, some (.ref la), some (.ref p), some (.int (0 + (t : Int))), some (.int (i : Int)), some v5, x6, x7] ∧ At T H p ns' H' ∧ Tk H5 H' ∧ Pass many ws ns (fun ns' => (∀ j w, j < i → ws[j]? = some w → Shut w ns') ∧ ∀ s ∈ (sides wl).take k, Shut1 wl ns' s) ns' b')
          ⟨ns', b', _, _, rfl, A5, Tk.refl _, P3.come, P3.le, P3.up, fun h => ⟨(P3.no h).1, (P3.no h).2, fun s hs => by simp at hs⟩⟩ (fun k σ H' _ ⟨_, _, _, _, _, _, h, _⟩ => h.sqt hs) ?_ ?_⟩
        · rintro k x σ H6 hk ⟨ns', b', x6, x7, rfl, A6, k6, P6⟩
          obtain ⟨s, hsk, rfl⟩ : ∃ s, (sides wl)[k]? = some s ∧ x = V.int s := by
            rw [List.getElem?_map] at hk
            cases hq : (sides wl)[k]? with
            | none => rw [hq] at hk; cases hk
            | some s => rw [hq] at hk; exact ⟨s, rfl, (Option.some.inj hk).symm⟩
          have sm := List.mem_of_getElem? hsk
          have k46 := e5.tk.trans k6
          have ix : ∀ (n : Nat) (z : Int), wl.l[n]? = some z → Ev T (tOp (rIxT K) (tVar 5) (tC (.int (n : Int)))) [some v, some (.ref la), some (.ref p), some (.int (0 + (t : Int))), some (.int (i : Int)), some v5, some (.int s), x7] H6 (fun v _ => v = .int z) := fun n z hz =>
            ev_ixT (P := eqI) (i := n) (fun _ => stb_eqI) ((wv rfl k46).imp fun v H5 _ h => IT.tt h) ev_c hz
          refine q_asg (T := T) (ev_I0 (g := fun i j => V.int (i - j)) (i := wl.lo + wl.hi) (j := s) (ev_I0 (g := fun i j => V.int (i + j)) (ix 0 _ rfl) (ix 1 _ rfl)) (ev_var (i := 6) rfl)) fun v7 H7 e7 hv7 => ?_
          obtain rfl : v7 = .int (other wl s) := hv7
          have A7 := A6.ex e7
          have t1 := et_test (ev_inL (K := K) (neg := false) (i := s) (ev_var (T := T) (H := H7) (i := 6) (σ := [some v, some (.ref la), some (.ref p), some (.int (0 + (t : Int))), some (.int (i : Int)), some v5, some (.int s), some (.int (other wl s))]) rfl) (ev_varL (i := 2) (fun _ => stb_eqI) rfl A7.ll))
          have t2 := et_test (ev_inL (K := K) (neg := true) (i := other wl s) (ev_var (T := T) (H := H7) (i := 7) (σ := [some v, some (.ref la), some (.ref p), some (.int (0 + (t : Int))), some (.int (i : Int)), some v5, some (.int s), some (.int (other wl s))]) rfl) (ev_varL (i := 2) (fun _ => stb_eqI) rfl A7.ll))
          have ps := pass_step P6 hmem wok (sides_end sm)
          have cv : ∀ n, ((∀ j w, j < i → ws[j]? = some w → Shut w n) ∧ ∀ s ∈ (sides wl).take k, Shut1 wl n s) ∧ Shut1 wl n s → (∀ j w, j < i → ws[j]? = some w → Shut w n) ∧ ∀ s ∈ (sides wl).take (k + 1), Shut1 wl n s := fun n h => ⟨h.1.1, fun z hz => by
            rw [List.take_add_one, hsk] at hz
            rcases List.mem_append.mp hz with hz | hz
            · exact h.1.2 z hz
            · rw [show z = s by simpa using hz]
              exact h.2⟩
          refine s_if (et_and t1 fun _ => t2) (fun hb H8 e8 => ?_) (fun hb H8 e8 => ?_)
          · simp at hb
            have P8 := ps.1 ⟨hb.1, hb.2, sm⟩
            have A8 := A7.ex e8
            have lb := come_len P6.come g2
            refine s_app (T := T) (i := 2) rfl A8.2.2 (by rw [List.length_map]; omega) (ev_var (i := 7) rfl) fun v9 H9 e9 hv9 => ?_
            subst hv9
            have A9 := A8.ex e9
            exact ⟨_, _, _, _, rfl, A9.add, ((((k6.trans e7.tk).trans e8.tk).trans e9.tk).trans (Tk.upd A9.2.2)), P8.come, P8.le, P8.up, fun h => ⟨(P8.no h).1, cv _ (P8.no h).2⟩⟩
          · simp at hb
            have P8 := ps.2 (fun ⟨h1, h2, _⟩ => h2 (hb h1))
            exact ⟨_, _, _, _, rfl, A7.ex e8, (k6.trans e7.tk).trans e8.tk, P8.come, P8.le, P8.up, fun h => ⟨(P8.no h).1, cv _ (P8.no h).2⟩⟩
        · rintro σ H6 ⟨ns', b', x6, x7, rfl, A6, k6, P6⟩
          refine ⟨ns', b', _, _, _, _, rfl, A6, P6.come, P6.le, P6.up, fun h => ⟨(P6.no h).1, fun j w hj hw => ?_⟩⟩
          obtain ⟨h1, h2⟩ := (P6.no h).2
          rw [List.length_map, List.take_length] at h2
          by_cases e : j = i
          · subst e
            rw [hwl] at hw
            cases hw
            exact ⟨fun h => h2 _ h h, fun h => h2 _ h h⟩
          · exact h1 j w (by omega) hw
      · rintro σ H3 ⟨ns', b', x4, x5, x6, x7, rfl, A3, P3⟩
        refine ⟨ns', _, _, _, _, _, rfl, A3, P3.come, ?_⟩
        cases b' with
        | false =>
          right
          intro w hw
          obtain ⟨j, hj⟩ := List.mem_iff_getElem?.mp hw
          refine (P3.no rfl).2 j w ?_ hj
          rw [List.length_map]
          simpa [evL] using (List.getElem?_eq_some_iff.mp hj).1
        | true =>
          have hu := P3.up rfl
          rcases hc with hc | hc
          · left; omega
          · exfalso
            have h1 := come_all C2 hc
            have := length_le_of_subset P3.come.nd (m := ns) fun x hx => (h1 x).mpr (P3.come.re x hx)
            omega
    · rintro σ H2 ⟨ns, x3, x4, x5, x6, x7, rfl, A2, C2, hc⟩
      have hl := come_lenM C2
      have hs : ∀ w ∈ ws, Shut w ns := by
        rcases hc with hc | hc
        · omega
        · exact hc
      refine ⟨_, rfl, p, ns, rfl, .of A2.2.2, fun ns' p' hp hs' np' => ?_⟩
      refine q _ _ (A2.1.trans (Ex.new np')) ⟨ns', ⟨p', _, rfl, upd_same, paired_of_map (F := fun v d => eqI d v _) (f := V.int) (fun _ => rfl) ns'⟩, fun r => ?_⟩
      rw [hp.mem_iff]
      exact come_all C2 hs r
end
end WI
set_option maxRecDepth 100000
/-! The law's own defs: heart, chosen, leaves, some. -/
namespace WI
open PySem PySem.Spec L2 LamX RZ StX
section
variable {T : LTab} {P : Program} {w : World} {K : PySem.W.Frag} {mg : Str → Option Value} {base : Heap}
theorem ev_neNil {α : Type} {σ : L2.St} {H : Hp} {te : TE} {n : Nat} {Pd : α → V → Hp → Prop} {g : α → PyData} {ds : List α} (hd : ∀ d v H, Pd d v H → Dp K H v (g d)) (hn : ∀ d, Nice n (g d)) (h : Ev T te σ H (LL Pd ds)) (k : n ≤ 60) : Ev T (tOp (rNeD K) te (tLst tNil)) σ H (fun v _ => v = .bl (!decide (ds = []))) := by
  refine (ev_neD (d := .list (ds.map g)) (d' := .list []) (h.imp fun v H4 _ h => dp_LL (fun d v h => hd d v _ h) h) ev_nil (Nice.shaped (nice_list (nice_map fun x _ => hn x)) (by omega)) (by decide)).imp fun v _ _ e => ?_
  rw [e, eqv_list, eqvAll_nil]
  cases ds <;> simp
/-- whether a side of the wall is come to -/
def heartB (ws : List Wall) (rs : List Int) (one : Int) : Bool := match ws[one.toNat]? with
  | some wl => !decide ((sides wl).filter (fun s => decide (s ∈ rs)) = [])
  | none => false
theorem heart_iff {ws : List Wall} {rs : List Int} (hr : ∀ r, r ∈ rs ↔ Reach ws r) : ((evL ws.length).filter (heartB ws rs)).length = ws.length ↔ Good ws := by
  have e : ws.length = (evL ws.length).length := by simp [evL]
  have e2 : ((evL ws.length).filter (heartB ws rs)).length = ws.length ↔ ((evL ws.length).filter (heartB ws rs)).length = (evL ws.length).length := by rw [← e]
  rw [e2, List.length_filter_eq_length_iff]
  constructor
  · intro h wl hw
    obtain ⟨i, hi⟩ := List.mem_iff_getElem?.mp hw
    have il := (List.getElem?_eq_some_iff.mp hi).1
    have h1 := h (i : Int) (List.mem_map.mpr ⟨i, List.mem_range.mpr il, rfl⟩)
    unfold heartB at h1
    rw [Int.toNat_natCast, hi] at h1
    have h2 : (sides wl).filter (fun s => decide (s ∈ rs)) ≠ [] := by simpa using h1
    obtain ⟨s, hs⟩ := List.exists_mem_of_ne_nil _ h2
    have h3 := List.mem_filter.mp hs
    exact ⟨s, h3.1, (hr s).mp (of_decide_eq_true h3.2)⟩
  · intro h x hx
    obtain ⟨i, hi, rfl⟩ := List.mem_map.mp hx
    have il := List.mem_range.mp hi
    have hw : ws[i]? = some ws[i] := List.getElem?_eq_getElem il
    obtain ⟨s, hs, hR⟩ := h ws[i] (List.getElem_mem il)
    unfold heartB
    rw [Int.toNat_natCast, hw]
    have h2 : s ∈ (sides ws[i]).filter (fun s => decide (s ∈ rs)) := List.mem_filter.mpr ⟨hs, decide_eq_true ((hr s).mpr hR)⟩
    have h3 : (sides ws[i]).filter (fun s => decide (s ∈ rs)) ≠ [] := List.ne_nil_of_mem h2
    simp only [h3, decide_false, Bool.not_false]
def sp_law_heart (T : LTab) (K : PySem.W.Frag) : Sp := fun vs H Q _ => ∃ (v l : V) (many : Int) (ws : List Wall), vs = [v, l] ∧ YT K many ws v H ∧ YOk many ws ∧ IT K (evL ws.length) l H ∧ Pure T (fun v H' => ∃ hs : List Int, IT K hs v H' ∧ (hs.length = ws.length ↔ Good ws)) H Q
theorem ok_law_heart {f : Addr} {fd : FuncData} (F : Fun K "_law_heart" "_law_heart" s_law_heart f fd) (G : Bn mg) (D_law_sides : Dfn P w K mg base 1 "_law_sides" ["_law_shut"] (sp_sides_of T K)) (D_law_come : Dfn P w K mg base 2 "_law_come" ["_law_yard_here", "_law_lot"] (sp_reached T K)) : FnOk P w K mg base CX0 3 f fd ["_law_yard_here", "_law_lot"] (sp_law_heart T K) := by
  refine F.ok sc_law_heart (fun vs H Q E h => ?_) (fun cdv A outer s H vs Q E hr h => ?_)
  · obtain ⟨v, l, many, ws, rfl, _⟩ := h
    rfl
  · obtain ⟨v, l, many, ws, rfl, hv, ho, hla, q⟩ := h
    refine ⟨_, (pss_cons (ps_set (i := 2) sc_law_heart.nd rfl (by first | exact Or.inl rfl | exact Or.inr rfl) (pe_dfn D_law_come (hr.mono (by decide)) (pa_cons (pv 0) (pa_cons (pv 1) pa_nil))))
      (pss_one (ps_ret (k_tupleOf K (by rfl) G.tuple_ (pe_lc (own := [("_law_one", 3)]) rfl sc_law_heart.nd (k_tup K (pv 1) rfl) (blkOk_by (own := [("_law_one", 3)]) (N := N_law_heart) (by show blkC _ (defScope s_law_heart) _ _ = true; decide +kernel)) (fun _ _ _ _ _ => (pg_name (i := 3) sc_law_heart.nd rfl (by first | exact Or.inl rfl | exact Or.inr rfl))) (fun _ _ _ _ _ => (pts_one (pt_cmpR (k_neD K hr.units rfl) (pe_lc (own := [("_law_side", 4)]) rfl sc_law_heart.nd (k_tup K (pe_dfn D_law_sides (hr.mono (by decide)) (pa_cons (pe_ix (k_ix_tup K rfl) (pe_ix (k_ix_tup K rfl) (pv 0) pe_int (fun _ _ => rfl)) (pv 3) (fun _ _ => rfl)) pa_nil)) rfl) (blkOk_by (own := [("_law_side", 4)]) (N := N_law_heart) (by show blkC _ (relS _ (defScope s_law_heart)) _ _ = true; decide +kernel)) (fun _ _ _ _ _ => (pg_name (i := 4) sc_law_heart.nd rfl (by first | exact Or.inl rfl | exact Or.inr rfl))) (fun _ _ _ _ _ => (pts_one (pt_cmpR (k_in K rfl) (pv 4) (pv 2) rfl))) (fun _ _ _ _ _ => (pv 4))) (pe_lst pa_nil) (nomark _)))) (fun _ _ _ _ _ => (pv 3))) rfl)))), ?_⟩
    have h12 := ho.wl
    have y0 : ∀ {σ H1} , σ[0]? = some (some v) → Ex T H H1 → Ev T (tVar 0) σ H1 (YT K many ws) := fun h e => ev_varP YT.stb h (YT.stb.ex hv e)
    refine q_asg (ev_dfn (T := T) (P := fun v H' => ∃ rs : List Int, LL eqI rs v H' ∧ ∀ r, r ∈ rs ↔ Reach ws r) (ea_two (y0 rfl (Ex.refl _)) YT.stb (ev_varP (i := 1) IT.stb rfl hla)) fun vs H1 e ⟨v, v', ev, p, p'⟩ Q q => ⟨v, v', many, ws, ev, p, ho, p', q⟩) fun v2 H1 e1 ⟨rs, hrs, hR⟩ => ?_
    have hel : (evL ws.length).length = ws.length := by simp [evL]
    refine s_ret (T := T) (P := IT K ((evL ws.length).filter (heartB ws rs))) ((ev_tupleOf (K := K) (P := eqI) (fun _ => stb_eqI) (ev_lcT (β := Unit) (K := K) (Ps := eqI) (Pe := eqI) (ds := evL ws.length) (heartB ws rs) ((ev_varP (i := 1) IT.stb rfl (IT.stb.ex hla e1)).imp fun v H _ h => h.tt) (fun _ => stb_eqI) (by omega) (fun x => rfl) (fun d x H2 hd e2 hx => ?_) (fun d x H2 hd e2 hx _ => ?_))).imp fun v H _ h => h.it) fun v3 H2 e2 hv3 => q _ _ (e1.trans e2) ⟨_, hv3, heart_iff hR⟩
    · obtain ⟨i, hi, rfl⟩ := List.mem_map.mp hd
      have il := List.mem_range.mp hi
      have hwl : ws[i]? = some ws[i] := List.getElem?_eq_getElem il
      have wok := ho.wo _ (List.getElem_mem il)
      obtain rfl : x = .int (i : Int) := hx
      unfold heartB
      rw [Int.toNat_natCast, hwl]
      generalize ws[i] = wl at hwl wok
      refine et_test (ev_neNil (K := K) (n := 0) (g := fun n => .int n) (Pd := eqI) (fun _ _ _ h => dp_I h) (fun _ => nice_int) (ev_lcT (β := Unit) (K := K) (Ps := eqI) (Pe := eqI) (ds := sides wl) (fun s => decide (s ∈ rs)) (Ev.imp (ev_dfn (T := T) (P := IT K (sides wl)) (ea_one (ev_ixT (K := K) WV.stb (ev_yard1 (y0 rfl (e1.trans e2)) ev_c) (ev_var (i := 3) rfl) hwl)) fun vs H1 e ⟨v, ev, p⟩ Q q => ⟨v, many, wl, ev, p, wok, q⟩) fun v H _ h => h.tt) (fun _ => stb_eqI) (by have := sides_len wl; omega) (fun x => rfl) (fun s x H3 hs e3 hx => ?_) (fun s x H3 hs e3 hx _ => ?_)) (by omega))
      · obtain rfl : x = .int s := hx
        exact et_is (et_test (ev_inL (neg := false) (ev_var (i := 4) rfl) (ev_varL (i := 2) (fun _ => stb_eqI) rfl (hrs.ex (fun _ => stb_eqI) (e2.trans e3))))) (by simp)
      · exact ev_varP (i := 4) stb_eqI rfl hx
    · exact ev_varP (i := 3) stb_eqI rfl hx
theorem ev_law_heart {σ : L2.St} {H : Hp} {ta tb : TE} {many : Int} {ws : List Wall} (h : Ev T ta σ H (YT K many ws)) (h2 : Ev T tb σ H (IT K (evL ws.length))) (ho : YOk many ws) : Ev T (tDfn (sp_law_heart T K) (tCons ta (tCons tb tNil))) σ H (fun v H' => ∃ hs : List Int, IT K hs v H' ∧ (hs.length = ws.length ↔ Good ws)) :=
  ev_dfn (ea_two h YT.stb h2) fun vs H1 e ⟨v, v', ev, p, p'⟩ Q q => ⟨v, v', many, ws, ev, p, ho, p', q⟩
theorem ev_lenH {σ : L2.St} {H : Hp} {te : TE} {φ : List Int → Prop} (h : Ev T te σ H (fun v H' => ∃ hs, IT K hs v H' ∧ φ hs)) : Ev T (tCB (fun xs H Q => ∃ p ys, xs = [.ref p] ∧ (SqL K H p ys ∨ SqT K H p ys) ∧ Q (.int ys.length) H) (tCons te tNil)) σ H (fun v _ => ∃ hs : List Int, v = .int (hs.length : Int) ∧ φ hs) := fun H1 e Q q =>
  h H1 e _ fun v H2 e2 ⟨hs, ⟨a, ev, hs'⟩, hφ⟩ => ⟨a, _, by rw [ev], .inr hs', q _ _ e2 ⟨hs, by rw [List.length_map], hφ⟩⟩
def sp_law_leaves (T : LTab) (K : PySem.W.Frag) : Sp := sp_has_order T K
theorem ok_law_leaves {f : Addr} {fd : FuncData} (F : Fun K "_law_leaves" "_law_leaves" s_law_leaves f fd) (G : Bn mg) (D_law_heart : Dfn P w K mg base 3 "_law_heart" ["_law_yard_here", "_law_lot"] (sp_law_heart T K)) : FnOk P w K mg base CX0 4 f fd ["_law_yard_here"] (sp_has_order T K) := by
  refine F.ok sc_law_leaves (fun vs H Q E h => ?_) (fun cdv A outer s H vs Q E hr h => ?_)
  · obtain ⟨v, many, ws, rfl, _⟩ := h
    rfl
  · obtain ⟨v, many, ws, rfl, hv, ho, q⟩ := h
    refine ⟨_, (pss_one (ps_ret (pe_cmpR op_eq (pe_callB (k_len K rfl) (by rfl) G.len_ PySem.boot_len (pa_cons (pe_dfn D_law_heart (hr.mono (by decide)) (pa_cons (pv 0) (pa_cons (pe_tupRg rfl (by rfl) G.tuple_ (prg_1 (by rfl) G.range_ (pe_callB (k_len K rfl) (by rfl) G.len_ PySem.boot_len (pa_cons (pe_ix (k_ix_tup K rfl) (pv 0) pe_int (fun _ _ => rfl)) pa_nil)))) pa_nil))) pa_nil)) (pe_callB (k_len K rfl) (by rfl) G.len_ PySem.boot_len (pa_cons (pe_ix (k_ix_tup K rfl) (pv 0) pe_int (fun _ _ => rfl)) pa_nil)) (nomark _)))), ?_⟩
    have h12 := ho.wl
    have y0 : ∀ {σ H1} , σ[0]? = some (some v) → Ex T H H1 → Ev T (tVar 0) σ H1 (YT K many ws) := fun h e => ev_varP YT.stb h (YT.stb.ex hv e)
    have ln : ∀ {H1}, Ex T H H1 → Ev T _ [some v] H1 (fun v _ => v = .int (ws.length : Int)) := fun e => ev_lenT (K := K) (ev_yard1 (y0 (σ := [some v]) rfl e) (ev_c (v := .int 1)))
    refine s_ret (T := T) (P := fun v _ => v = .bl (tv (Good ws))) (ev_op (Pa := fun v _ => ∃ hs : List Int, v = .int (hs.length : Int) ∧ (hs.length = ws.length ↔ Good ws)) (ev_lenH (K := K) (ev_law_heart (y0 rfl (Ex.refl H)) (ev_tupRg (ln (Ex.refl H)) (by omega)) ho)) (fun _ _ _ h _ => h) (ln (Ex.refl H)) fun x y H1 _ ⟨hs, hx, hl⟩ hy Q q => ?_) fun v H1 e1 hv => q _ _ e1 hv
    subst hx hy
    refine ⟨rfl, q _ _ (Ex.refl _) ?_⟩
    rw [← tv_congr hl, ← tv_dec]
    congr 1
    exact decide_eq_decide.mpr ⟨fun h => by injection h with h; omega, fun h => by rw [h]⟩
theorem ev_law_leaves {σ : L2.St} {H : Hp} {ta : TE} {many : Int} {ws : List Wall} (h : Ev T ta σ H (YT K many ws)) (ho : YOk many ws) : Ev T (tDfn (sp_has_order T K) (tCons ta tNil)) σ H (fun v _ => v = .bl (tv (Good ws))) := ev_has_order h ho
/-- a + b, tuples of ints -/
theorem ev_catI {σ : L2.St} {H : Hp} {ta tb : TE} {ns ms : List Int} (ha : Ev T ta σ H (IT K ns)) (hb : Ev T tb σ H (IT K ms)) (hz : ns.length + ms.length ≤ 40000) : Ev T (tOp (rCatA K) ta tb) σ H (IT K (ns ++ ms)) :=
  ev_op ha IT.stb hb fun x y H1 _ ⟨a, hx, hs⟩ ⟨b, hy, ht⟩ Q q => by
    subst hx hy
    refine ⟨a, b, _, _, rfl, rfl, hs, ht, by rw [List.length_map, List.length_map]; exact Nat.le_trans hz (by decide), fun h => ?_, fun h h2 => ?_, fun _ _ p np => ?_⟩
    · have : ns = [] := List.map_eq_nil_iff.mp h
      subst this
      exact q _ _ (Ex.refl _) ⟨b, rfl, ht⟩
    · have : ms = [] := List.map_eq_nil_iff.mp h2
      subst this
      have q2 := q (.ref a) H1 (Ex.refl _)
      rw [List.append_nil] at q2
      exact q2 ⟨a, rfl, hs⟩
    · exact q _ _ (Ex.new np) ⟨p, rfl, .of (by rw [upd_same, List.map_append])⟩
def sp_law_chosen (T : LTab) (K : PySem.W.Frag) : Sp := fun vs H Q _ => ∃ (v l : V) (many : Int) (ws : List Wall) (sds : List Int), vs = [v, l] ∧ YT K many ws v H ∧ IT K sds l H ∧ sds.length = ws.length ∧ ws.length ≤ 12 ∧ Pure T (YT K many (resides ws sds)) H Q
theorem ok_law_chosen {f : Addr} {fd : FuncData} (F : Fun K "_law_chosen" "_law_chosen" s_law_chosen f fd) (G : Bn mg) : FnOk P w K mg base CX0 1 f fd ["_law_yard_here", "_law_sides_here"] (sp_law_chosen T K) := by
  refine F.ok sc_law_chosen (fun vs H Q E h => ?_) (fun cdv A outer s H vs Q E hr h => ?_)
  · obtain ⟨v, l, many, ws, sds, rfl, _⟩ := h
    rfl
  · obtain ⟨v, l, many, ws, sds, rfl, hv, hl, hlen, h12, q⟩ := h
    refine ⟨_, (pss_one (ps_ret (pe_tup (pa_cons (pe_ix (k_ix_tup K rfl) (pv 0) pe_int (fun _ _ => rfl)) (pa_cons (k_tupleOf K (by rfl) G.tuple_ (pe_lc (own := [("_law_at", 2)]) rfl sc_law_chosen.nd (pi_range1 (by rfl) G.range_ (pa_cons (pe_callB (k_len K rfl) (by rfl) G.len_ PySem.boot_len (pa_cons (pv 1) pa_nil)) pa_nil)) (blkOk_by (own := [("_law_at", 2)]) (N := N_law_chosen) (by show blkC _ (defScope s_law_chosen) _ _ = true; decide +kernel)) (fun _ _ _ _ _ => (pg_name (i := 2) sc_law_chosen.nd rfl (by first | exact Or.inl rfl | exact Or.inr rfl))) (fun _ _ _ _ _ => pts_nil) (fun _ _ _ _ _ => (pe_op (k_catA K rfl) (pe_slice (k_sl_tup K rfl) (pe_ix (k_ix_tup K rfl) (pe_ix (k_ix_tup K rfl) (pv 0) pe_int (fun _ _ => rfl)) (pv 2) (fun _ _ => rfl)) po_none (po_some pe_int)) (pe_tup (pa_cons (pe_ix (k_ix_tup K rfl) (pv 1) (pv 2) (fun _ _ => rfl)) pa_nil))))) rfl) pa_nil))))), ?_⟩
    have y0 : ∀ {σ H1} , σ[0]? = some (some v) → Ex T H H1 → Ev T (tVar 0) σ H1 (YT K many ws) := fun h e => ev_varP YT.stb h (YT.stb.ex hv e)
    have l0 : ∀ {σ H1} , σ[1]? = some (some l) → Ex T H H1 → Ev T (tVar 1) σ H1 (TT' K eqI sds) := fun h e => (ev_varP IT.stb h (IT.stb.ex hl e)).imp fun v H _ h => h.tt
    have hrl : (resides ws sds).length = ws.length := by simp [resides, hlen]
    have hg : ∀ i, i < ws.length → ∃ wl s, ws[i]? = some wl ∧ sds[i]? = some s ∧ (resides ws sds).getD i ⟨0, 0, 0⟩ = reside wl s := fun i hi => by
      refine ⟨ws[i], sds[i]'(by omega), List.getElem?_eq_getElem hi, List.getElem?_eq_getElem (by omega), ?_⟩
      rw [List.getD_eq_getElem?_getD]
      unfold resides
      have hz : (ws.zip sds)[i]? = some (ws[i], sds[i]'(by omega)) := by
        rw [List.getElem?_zip_eq_some]
        exact ⟨List.getElem?_eq_getElem hi, List.getElem?_eq_getElem (by omega)⟩
      rw [List.getElem?_map, hz]
      rfl
    have hm : (List.range sds.length).map (fun i => (resides ws sds).getD i ⟨0, 0, 0⟩) = resides ws sds := by
      apply List.ext_getElem?
      intro i
      rw [List.getElem?_map]
      by_cases h : i < sds.length
      · rw [List.getElem?_range h, List.getElem?_eq_getElem (by omega)]
        simp [List.getD_eq_getElem?_getD, List.getElem?_eq_getElem (show i < (resides ws sds).length by omega)]
      · rw [List.getElem?_eq_none (by rw [List.length_range]; omega), List.getElem?_eq_none (by omega)]
        rfl
    have lc := ev_lcR (T := T) (H := H) (σ := [some v, some l, none]) (j := 2) (vs := [2]) (n := sds.length) (tt := tYes) (ta := tCons (tCB (fun xs H Q => ∃ p ys, xs = [.ref p] ∧ (SqL K H p ys ∨ SqT K H p ys) ∧ Q (.int ys.length) H) (tCons (tVar 1) tNil)) tNil)
      (te := tOp (rCatA K) (tSl (rSlA K) (tOp (rIxT K) (tOp (rIxT K) (tVar 0) (tC (.int 1))) (tVar 2)) tNoPart (tPart (tC (.int 2)))) (tTup (tCons (tOp (rIxT K) (tVar 1) (tVar 2)) tNil)))
      (Pe := fun i => WV K ((resides ws sds).getD i ⟨0, 0, 0⟩)) (fun _ => true) (ea_consV (ev_lenT (K := K) (l0 rfl (Ex.refl _))) ea_nil) (fun _ => IT.stb) (by omega) (fun x => rfl) (fun _ _ _ _ => et_yes) (fun i H1 hi e1 _ => by
        obtain ⟨wl, s, h1, h2, h3⟩ := hg i (by omega)
        rw [h3]
        exact ev_catI (T := T) (K := K) (ns := [wl.lo, wl.hi]) (ms := [s]) (ev_sl (K := K) (ns := wl.l) (ms := [wl.lo, wl.hi]) (ev_ixT (K := K) (P := WV K) WV.stb (ev_yard1 (y0 rfl e1) ev_c) (ev_var (i := 2) rfl) h1) eo_no (eo_part ev_c) rfl) (ev_tupI (ns := [s]) (ea_consV (ev_ixT (K := K) (P := eqI) (fun _ => stb_eqI) (l0 rfl e1) (ev_var (i := 2) rfl) h2) ea_nil) (by show 1 ≤ 40000; omega)) (by show 2 + 1 ≤ 40000; omega))
    rw [filt_true] at lc
    refine s_ret (ev_yardTup (K := K) (ev_yard0 (y0 rfl (Ex.refl _)) ev_c) (ev_tupleOf (K := K) WV.stb (lc.imp fun v H _ h => ?_))) fun v1 H1 e1 hv1 => q _ _ e1 hv1
    rw [← hm]
    exact LL.map h
theorem ev_law_chosen {σ : L2.St} {H : Hp} {ta tb : TE} {many : Int} {ws : List Wall} {sds : List Int} (h : Ev T ta σ H (YT K many ws)) (h2 : Ev T tb σ H (IT K sds)) (hl : sds.length = ws.length) (h12 : ws.length ≤ 12) : Ev T (tDfn (sp_law_chosen T K) (tCons ta (tCons tb tNil))) σ H (YT K many (resides ws sds)) :=
  ev_dfn (ea_two h YT.stb h2) fun vs H1 e ⟨v, v', ev, p, p'⟩ Q q => ⟨v, v', many, ws, sds, ev, p, p', hl, h12, q⟩
def sp_law_some (T : LTab) (K : PySem.W.Frag) : Sp := fun vs H Q _ => ∃ (a sl : Addr) (sn : List Int) (n : Nat), vs = [.ref a, .int (n : Int)] ∧ RowAt K a sl sn H ∧ n ≤ 12 ∧ PureR T K a sl sn (fun v H' => ∃ lot, IT K lot v H' ∧ IsLot n lot ∧ lot.length ≤ 12) H Q
theorem ok_law_some {f : Addr} {fd : FuncData} (F : Fun K "_law_some" "_law_some" s_law_some f fd) (G : Bn mg) (D_law_taken : Dfn P w K mg base 1 "_law_taken" ["_law_row", "_law_many"] (sp_taken T K)) : FnOk P w K mg base CX0 2 f fd ["_law_row", "_law_many"] (sp_law_some T K) := by
  refine F.ok sc_law_some (fun vs H Q E h => ?_) (fun cdv A outer s H vs Q E hr h => ?_)
  · obtain ⟨a, sl, sn, n, rfl, _⟩ := h
    rfl
  · obtain ⟨a, sl, sn, n, rfl, hR, h12, q⟩ := h
    refine ⟨_, (pss_one (ps_ret (k_tupleOf K (by rfl) G.tuple_ (pe_lc (own := [("_law_number", 2)]) rfl sc_law_some.nd (pi_range1 (by rfl) G.range_ (pa_cons (pv 1) pa_nil)) (blkOk_by (own := [("_law_number", 2)]) (N := N_law_some) (by show blkC _ (defScope s_law_some) _ _ = true; decide +kernel)) (fun _ _ _ _ _ => (pg_name (i := 2) sc_law_some.nd rfl (by first | exact Or.inl rfl | exact Or.inr rfl))) (fun _ _ _ _ _ => (pts_one (pt_cmpR op_gt (pe_dfn D_law_taken (hr.mono (by decide)) (pa_cons (pv 0) (pa_cons pe_int pa_nil))) pe_int (nomark _)))) (fun _ _ _ _ _ => (pv 2))) rfl))), ?_⟩
    have hsB := row_hid hR
    have nB : hid a H a = none := hid_same
    refine ⟨_, rfl, n, rfl, by omega, by omega, fun D hD => lc_range (lo := 0) (n := (n : Int).toNat) (fun i H' => Ex T (hid a H) H' ∧ RowAt K a sl sn H' ∧ ∃ ls : List Int, H' D = some (.lst (ls.map V.int)) ∧ ls.Pairwise (· < ·) ∧ (∀ x ∈ ls, 0 ≤ x ∧ x < (i : Int)) ∧ ls.length ≤ i) ?_ (fun i H' hi p => ?_) (fun H' p => ?_)⟩
    · have e : Ex T H (upd H D (.lst [])) := Ex.new hD
      exact ⟨hid_ex e, hR.ex e, [], upd_same, .nil, (fun x h => by cases h), Nat.zero_le _⟩
    · obtain ⟨e1, r1, ls, hls, up, rg, ln⟩ := p
      have Da : D ≠ a := fun z => by
        obtain ⟨xs, hx⟩ := hR.lst
        rw [z, hx] at hD
        cases hD
      have nBD : hid a H D = none := by rw [hid_ne Da]; exact hD
      refine ⟨rfl, ?_⟩
      refine er_gt (T := T) (K := K) (a := a) (sl := sl) (sn := sn) (j := 0) r1 (er_taken' (many := 3) r1 rfl ev_c (by decide) (by decide)) (fun _ => ev_c) _ fun b H3 e3 r3 _ => ?_
      have e13 := hid_stepB r1 e1 nB e3
      have hls3 := hid_lst e3 Da hls
      cases b with
      | true =>
        refine ⟨_, rfl, _, hls3, ?_, ?_⟩
        · rw [List.length_map]
          exact Nat.lt_of_le_of_lt (by omega : ls.length ≤ 100) (by decide)
        · have e4 : Ex T (hid a H) (upd H3 D (.lst (ls.map V.int ++ [V.int (0 + (i : Int))]))) := e13.mut nBD hls3
          refine ⟨e4, row_upd r3 Da nB e4 hsB, ls ++ [(i : Int)], ?_, ?_, fun x hx => ?_, ?_⟩
          · rw [upd_same, List.map_append, Int.zero_add]
            rfl
          · exact List.pairwise_append.mpr ⟨up, by simp, fun x hx y hy => by
              have := (rg x hx).2
              rw [List.mem_singleton.mp hy]
              omega⟩
          · rcases List.mem_append.mp hx with hx | hx
            · have := rg x hx; omega
            · rw [List.mem_singleton.mp hx]; omega
          · rw [List.length_append]
            simp only [List.length_cons, List.length_nil]
            omega
      | false => exact ⟨e13, r3, ls, hls3, up, fun x hx => by have := rg x hx; omega, by omega⟩
    · obtain ⟨e1, r1, ls, hls, up, rg, ln⟩ := p
      have Da : D ≠ a := fun z => by
        obtain ⟨xs, hx⟩ := hR.lst
        rw [z, hx] at hD
        cases hD
      refine .inl ⟨D, _, rfl, .of hls, fun t ht => ?_⟩
      have nt := Ex.new (T := T) (o := .tup (ls.map V.int)) ht
      exact q _ _ (e1.trans nt) (r1.ex nt) ⟨ls, ⟨t, rfl, .of upd_same⟩, ⟨up, fun x hx => by have := rg x hx; omega⟩, by omega⟩
end
end WI
set_option maxRecDepth 100000
/-! The law's own defs: alike. -/
namespace WI
open PySem PySem.Spec L2 LamX RZ StX
def rIxA (K : PySem.W.Frag) : R2 := fun x y H Q => rIxL K x y H Q ∨ rIxT K x y H Q
theorem ix_any {X : Cx} : IxR X (rIxA X.K) := fun value slice pins s σ H x y v u Q I rx ry h hs => h.elim (fun h => ix_list value slice pins s σ H x y v u Q I rx ry h hs) (fun h => ix_tup value slice pins s σ H x y v u Q I rx ry h hs)
theorem k_ix_any {X : Cx} (K : PySem.W.Frag) : X.K = K → IxR X (rIxA K) := fun h => h ▸ ix_any
section
variable {T : LTab} {P : Program} {w : World} {K : PySem.W.Frag} {mg : Str → Option Value} {base : Heap}
/-- a list (tracked) or a tuple -/
def SqB (K : PySem.W.Frag) (H : Hp) (l : Bool) (a : Addr) (xs : List V) : Prop := (l = true ∧ H a = some (.lst xs)) ∨ (l = false ∧ SqT K H a xs)
/-- the same data, nested so deep -/
def Same (K : PySem.W.Frag) : Nat → V → V → Hp → Prop
  | 0, v, v', _ => (∃ i : Int, v = .int i ∧ v' = .int i) ∨ (v = .non ∧ v' = .non)
  | n + 1, v, v', H => ∃ (l : Bool) (a b : Addr) (xs ys : List V), v = .ref a ∧ v' = .ref b ∧ SqB K H l a xs ∧ SqB K H l b ys ∧ xs.length ≤ 40000 ∧ Paired (fun x y => Same K n x y H) xs ys
theorem SqB.ex {H H' : Hp} {l : Bool} {a : Addr} {xs : List V} (h : SqB K H l a xs) (e : Ex T H H') : SqB K H' l a xs := by
  rcases h with ⟨h1, h2⟩ | ⟨h1, h2⟩
  · exact .inl ⟨h1, e.lst h2⟩
  · exact .inr ⟨h1, e.sqt h2⟩
theorem Same.ex : ∀ {n : Nat} {v v' : V} {H H' : Hp}, Same K n v v' H → Ex T H H' → Same K n v v' H'
  | 0, _, _, _, _, h, _ => h
  | n + 1, _, _, _, _, ⟨l, a, b, xs, ys, e1, e2, s1, s2, hz, p⟩, e => ⟨l, a, b, xs, ys, e1, e2, s1.ex e, s2.ex e, hz, paired_mono (fun x y q => Same.ex q e) p⟩
theorem tyB {H : Hp} {l : Bool} {a : Addr} {xs : List V} (h : SqB K H l a xs) : TyX K H (.ref a) (.type (if l = true then "list" else "tuple")) := by
  rcases h with ⟨h1, h2⟩ | ⟨h1, h2⟩
  · rw [h1]
    exact .base (.lst h2)
  · rw [h1]
    exact tyx_tup h2
theorem sqB_sq {H : Hp} {l : Bool} {a : Addr} {xs : List V} (h : SqB K H l a xs) : SqL K H a xs ∨ SqT K H a xs := by
  rcases h with ⟨h1, h2⟩ | ⟨h1, h2⟩
  · exact .inl (.of h2)
  · exact .inr h2
theorem ev_isi {σ : L2.St} {H : Hp} {ta : TE} {x : V} {ty cls : String} {r : Bool} (h : Ev T ta σ H (fun v _ => v = x)) (ht : ∀ H1, Ex T H H1 → TyX K H1 x (.type ty)) (hk : kitB ty cls = some r) : Ev T (tCB (rIsi K) (tCons ta (tCons (tC (.ty cls)) tNil))) σ H (fun v _ => v = .bl r) := fun H1 e Q q =>
  h H1 e _ fun v H2 e2 hv => by
    subst hv
    exact ⟨_, _, _, _, r, rfl, ClsV.ty cls, ht _ (e.trans e2), kit_ty hk, q _ _ e2 rfl⟩
theorem ev_isiT {σ : L2.St} {H : Hp} {ta : TE} {x : V} {ty : String} {r1 r2 : Bool} (h : Ev T ta σ H (fun v _ => v = x)) (ht : ∀ H1, Ex T H H1 → TyX K H1 x (.type ty)) (h1 : kitB ty "tuple" = some r1) (h2 : kitB ty "list" = some r2) :
    Ev T (tCB (rIsiT K) (tCons ta (tCons (tTup (tCons (tC (.ty "tuple")) (tCons (tC (.ty "list")) tNil))) tNil))) σ H (fun v _ => v = .bl (r1 || r2)) := fun H1 e Q q =>
  h H1 e _ fun v H2 e2 hv => by
    subst hv
    refine ⟨by show 2 ≤ sizeLine; decide, fun p np => ?_⟩
    have n := Ex.new (T := T) (o := .tup [.ty "tuple", .ty "list"]) np
    refine ⟨_, p, _, _, _, r1 || r2, rfl, upd_same, .cons (ClsV.ty "tuple") (.cons (ClsV.ty "list") .nil), ht _ ((e.trans e2).trans n), kitAny_cons (kit_ty h1) (fun hb => kitAny_cons (kit_ty h2) (fun hb2 => ?_) fun hb2 => by rw [hb, hb2]; rfl) (fun hb => by rw [hb]; rfl), q _ _ (e2.trans n) rfl⟩
    rw [hb, hb2]
    exact kitAny_nil
def sp_alike (T : LTab) (K : PySem.W.Frag) (n : Nat) : Sp := fun vs H Q _ => ∃ (v v' : V) (m : Nat), vs = [v, v'] ∧ m < n ∧ Same K m v v' H ∧ Pure T (fun v _ => v = .bl true) H Q
theorem ok_law_alike {f : Addr} {fd : FuncData} (F : Fun K "_law_alike" "_law_alike" s_law_alike f fd) (G : Bn mg) (hmg : mg "_law_alike" = some (.ref f)) (hb : L2.Binds K fd ["_law_found", "_law_due"] []) : ∀ n, FnOk P w K mg base CX0 (n + 1) f fd ["_law_found", "_law_due"] (sp_alike T K n) := by
  intro n
  induction n with
  | zero => exact fn_never fun vs H Q E ⟨_, _, _, _, h, _⟩ => Nat.not_lt_zero _ h
  | succ n ih =>
    have D_law_alike : Dfn P w K mg base (n + 1) "_law_alike" ["_law_found", "_law_due"] (sp_alike T K n) := ⟨f, fd, ih, hmg, F.kp, hb⟩
    refine F.ok sc_law_alike (fun vs H Q E h => ?_) (fun cdv A outer s H vs Q E hr h => ?_)
    · obtain ⟨v, v', m, rfl, _⟩ := h
      rfl
    · obtain ⟨v, v', m, rfl, hm, hs, q⟩ := h
      refine ⟨_, (pss_cons (ps_if (pt_val (pe_callB (k_isiT K rfl) (by rfl) G.isinstance_ (by decide +kernel) (pa_cons (pv 1) (pa_cons (pe_tup (pa_cons (pe_bltn (by rfl) G.tuple_ (by decide +kernel) (show RelV (.ty "tuple") _ from rfl)) (pa_cons (pe_bltn (by rfl) G.list_ (by decide +kernel) (show RelV (.ty "list") _ from rfl)) pa_nil))) pa_nil)))) (pss_cons (ps_if (PW.pt (pw_or (pt_not (pt_val (pe_callB (k_isiT K rfl) (by rfl) G.isinstance_ (by decide +kernel) (pa_cons (pv 0) (pa_cons (pe_tup (pa_cons (pe_bltn (by rfl) G.tuple_ (by decide +kernel) (show RelV (.ty "tuple") _ from rfl)) (pa_cons (pe_bltn (by rfl) G.list_ (by decide +kernel) (show RelV (.ty "list") _ from rfl)) pa_nil))) pa_nil))))) (pw_or1 (pt_cmpR op_ne (pe_callB (k_isi K rfl) (by rfl) G.isinstance_ (by decide +kernel) (pa_cons (pv 0) (pa_cons (pe_bltn (by rfl) G.list_ (by decide +kernel) (show RelV (.ty "list") _ from rfl)) pa_nil))) (pe_callB (k_isi K rfl) (by rfl) G.isinstance_ (by decide +kernel) (pa_cons (pv 1) (pa_cons (pe_bltn (by rfl) G.list_ (by decide +kernel) (show RelV (.ty "list") _ from rfl)) pa_nil))) (nomark _))))) (pss_one (ps_ret pe_bl)) pss_nil)
      (pss_cons (ps_if (pt_cmpR op_ne (pe_callB (k_len K rfl) (by rfl) G.len_ PySem.boot_len (pa_cons (pv 0) pa_nil)) (pe_callB (k_len K rfl) (by rfl) G.len_ PySem.boot_len (pa_cons (pv 1) pa_nil)) (nomark _)) (pss_one (ps_ret pe_bl)) pss_nil)
      (pss_one (ps_ret (pe_cmpR (k_eqD K hr.units rfl) (pe_lc (own := [("_law_k", 2)]) rfl sc_law_alike.nd (pi_range1 (by rfl) G.range_ (pa_cons (pe_callB (k_len K rfl) (by rfl) G.len_ PySem.boot_len (pa_cons (pv 1) pa_nil)) pa_nil)) (blkOk_by (own := [("_law_k", 2)]) (N := N_law_alike) (by show blkC _ (defScope s_law_alike) _ _ = true; decide +kernel)) (fun _ _ _ _ _ => (pg_name (i := 2) sc_law_alike.nd rfl (by first | exact Or.inl rfl | exact Or.inr rfl))) (fun _ _ _ _ _ => (pts_one (pt_not (pt_val (pe_dfn D_law_alike (hr.mono (by omega)) (pa_cons (pe_ix (k_ix_any K rfl) (pv 0) (pv 2) (fun _ _ => rfl)) (pa_cons (pe_ix (k_ix_any K rfl) (pv 1) (pv 2) (fun _ _ => rfl)) pa_nil))))))) (fun _ _ _ _ _ => (pv 2))) (pe_lst pa_nil) (nomark _)))))) pss_nil)
      (pss_cons (ps_if (PW.pt (pw_or (pt_cmpR op_isN (pv 1) pe_non (nomark _)) (pw_or1 (pt_val (pe_callB (k_isi K rfl) (by rfl) G.isinstance_ (by decide +kernel) (pa_cons (pv 1) (pa_cons (pe_bltn (by rfl) G.str_ (by decide +kernel) (show RelV (.ty "str") _ from rfl)) pa_nil))))))) (pss_one (ps_ret (pe_and (pe_cmpR op_eq (pv 0) (pv 1) (nomark _)) (pe_one (pe_cmpR op_eq (pe_callB (k_isi K rfl) (by rfl) G.isinstance_ (by decide +kernel) (pa_cons (pv 0) (pa_cons (pe_bltn (by rfl) G.str_ (by decide +kernel) (show RelV (.ty "str") _ from rfl)) pa_nil))) (pe_callB (k_isi K rfl) (by rfl) G.isinstance_ (by decide +kernel) (pa_cons (pv 1) (pa_cons (pe_bltn (by rfl) G.str_ (by decide +kernel) (show RelV (.ty "str") _ from rfl)) pa_nil))) (nomark _)))))) pss_nil)
      (pss_one (ps_ret (pe_and (pe_callB (k_isi K rfl) (by rfl) G.isinstance_ (by decide +kernel) (pa_cons (pv 0) (pa_cons (pe_bltn (by rfl) G.int_ (by decide +kernel) (show RelV (.ty "int") _ from rfl)) pa_nil))) (pe_and (pe_cmpR op_eq (pe_callB (k_isi K rfl) (by rfl) G.isinstance_ (by decide +kernel) (pa_cons (pv 0) (pa_cons (pe_bltn (by rfl) G.bool_ (by decide +kernel) (show RelV (.ty "bool") _ from rfl)) pa_nil))) (pe_callB (k_isi K rfl) (by rfl) G.isinstance_ (by decide +kernel) (pa_cons (pv 1) (pa_cons (pe_bltn (by rfl) G.bool_ (by decide +kernel) (show RelV (.ty "bool") _ from rfl)) pa_nil))) (nomark _)) (pe_one (pe_cmpR op_eq (pv 0) (pv 1) (nomark _))))))))), ?_⟩
      cases m with
      | zero =>
        rcases hs with ⟨i, rfl, rfl⟩ | ⟨rfl, rfl⟩
        · have ti : ∀ H1, Ex T H H1 → TyX K H1 (.int i) (.type "int") := fun H1 _ => .base (.int i)
          refine q_no (et_B (ev_isiT (r1 := false) (r2 := false) (ty := "int") (ev_var (i := 1) rfl) ti (by decide +kernel) (by decide +kernel))) fun H1 e1 => ?_
          have ti1 : ∀ H2, Ex T H1 H2 → TyX K H2 (.int i) (.type "int") := fun H2 _ => .base (.int i)
          refine q_no (et_is (et_or (a := false) (b := false) (et_test (ev_op (ev_var (i := 1) rfl) stb_eq ev_c fun x y H1 _ hx hy Q q => ⟨hy, q _ _ (Ex.refl _) (by rw [hx]; rfl)⟩)) fun _ => et_B (ev_isi (ty := "int") (cls := "str") (r := false) (ev_var (i := 1) rfl) ti1 (by decide +kernel))) rfl) fun H2 e2 => ?_
          have ti2 : ∀ H3, Ex T H2 H3 → TyX K H3 (.int i) (.type "int") := fun H2 _ => .base (.int i)
          refine s_ret (ev_andV (a := true) (b := true) (ev_isi (ty := "int") (cls := "int") (r := true) (ev_var (i := 0) rfl) ti2 (by decide +kernel)) fun _ => ev_andV (a := true) (b := true) ?_ fun _ => ?_) fun v H3 e3 hv => q _ _ ((e1.trans e2).trans e3) hv
          · exact ev_eqS (x := .bl false) (y := .bl false) rfl (ev_isi (ty := "int") (cls := "bool") (r := false) (ev_var (i := 0) rfl) ti2 (by decide +kernel)) (ev_isi (ty := "int") (cls := "bool") (r := false) (ev_var (i := 1) rfl) ti2 (by decide +kernel))
          · exact (ev_eqS (x := .int i) (y := .int i) rfl (ev_var (i := 0) rfl) (ev_var (i := 1) rfl)).imp fun v _ _ h => by rw [h]; simp
        · have ti : ∀ H1, Ex T H H1 → TyX K H1 .non (.type "NoneType") := fun H1 _ => .base .non
          refine q_no (et_B (ev_isiT (r1 := false) (r2 := false) (ty := "NoneType") (ev_var (i := 1) rfl) ti (by decide +kernel) (by decide +kernel))) fun H1 e1 => ?_
          have ti1 : ∀ H2, Ex T H1 H2 → TyX K H2 .non (.type "NoneType") := fun H2 _ => .base .non
          refine q_if (T := T) (b := true) (et_is (et_or (a := true) (b := true) (et_test (ev_op (ev_var (i := 1) rfl) stb_eq ev_c fun x y H1 _ hx hy Q q => ⟨hy, q _ _ (Ex.refl _) (by rw [hx]; rfl)⟩)) fun h => by cases h) rfl) (fun _ H2 e2 => ?_) (fun h => by cases h)
          have ti2 : ∀ H3, Ex T H2 H3 → TyX K H3 .non (.type "NoneType") := fun H2 _ => .base .non
          refine s_ret (ev_andV (a := true) (b := true) ((ev_eqS (x := .non) (y := .non) rfl (ev_var (i := 0) rfl) (ev_var (i := 1) rfl)).imp fun v _ _ h => by rw [h]; rfl) fun _ => ?_) fun v H3 e3 hv => q _ _ ((e1.trans e2).trans e3) hv
          exact ev_eqS (x := .bl false) (y := .bl false) rfl (ev_isi (ty := "NoneType") (cls := "str") (r := false) (ev_var (i := 0) rfl) ti2 (by decide +kernel)) (ev_isi (ty := "NoneType") (cls := "str") (r := false) (ev_var (i := 1) rfl) ti2 (by decide +kernel))
      | succ m =>
        obtain ⟨l, a, b, xs, ys, rfl, rfl, s1, s2, hz, hp⟩ := hs
        have hlen := Paired.length hp
        have ty : ∀ {H0 H1 : Hp} {a : Addr} {xs : List V}, SqB K H0 l a xs → Ex T H0 H1 → TyX K H1 (.ref a) (.type (if l = true then "list" else "tuple")) := fun h e => tyB (h.ex e)
        have k1 : kitB (if l = true then "list" else "tuple") "tuple" = some (!l) ∧ kitB (if l = true then "list" else "tuple") "list" = some l := by
          cases l <;> exact ⟨by decide +kernel, by decide +kernel⟩
        have lo : ((!l) || l) = true := by cases l <;> rfl
        refine q_if (T := T) (b := true) (et_is (et_B (ev_isiT (r1 := !l) (r2 := l) (ev_var (i := 1) rfl) (fun H1 e => ty s2 e) k1.1 k1.2)) lo) (fun _ H1 e1 => ?_) (fun h => by cases h)
        have s1' := s1.ex e1
        have s2' := s2.ex e1
        refine q_no (et_is (et_or (a := false) (b := false) (et_is (et_not (et_B (ev_isiT (r1 := !l) (r2 := l) (ev_var (i := 0) rfl) (fun H1 e => ty s1' e) k1.1 k1.2))) (by rw [lo]; rfl)) fun _ => et_is (et_test (ev_neS (x := .bl l) (y := .bl l) rfl (ev_isi (ev_var (i := 0) rfl) (fun H1 e => ty s1' e) k1.2) (ev_isi (ev_var (i := 1) rfl) (fun H1 e => ty s2' e) k1.2))) (by simp)) rfl) fun H2 e2 => ?_
        have s1'' := s1'.ex e2
        have s2'' := s2'.ex e2
        have len0 : ∀ {H3}, Ex T H2 H3 → Ev T (tCB (fun xs H Q => ∃ p ys, xs = [.ref p] ∧ (SqL K H p ys ∨ SqT K H p ys) ∧ Q (.int ys.length) H) (tCons (tVar 0) tNil)) [some (.ref a), some (.ref b), none] H3 (fun v _ => v = .int (xs.length : Int)) := fun e =>
          ev_lenS (P := fun v H => v = .ref a ∧ SqB K H l a xs) ((ev_var (i := 0) rfl).imp fun v H4 e4 hv => ⟨hv, s1''.ex (e.trans e4)⟩) fun v H1 h => ⟨a, xs, h.1, sqB_sq h.2, rfl⟩
        have len1 : ∀ {H3}, Ex T H2 H3 → Ev T (tCB (fun xs H Q => ∃ p ys, xs = [.ref p] ∧ (SqL K H p ys ∨ SqT K H p ys) ∧ Q (.int ys.length) H) (tCons (tVar 1) tNil)) [some (.ref a), some (.ref b), none] H3 (fun v _ => v = .int (ys.length : Int)) := fun e =>
          ev_lenS (P := fun v H => v = .ref b ∧ SqB K H l b ys) ((ev_var (i := 1) rfl).imp fun v H4 e4 hv => ⟨hv, s2''.ex (e.trans e4)⟩) fun v H1 h => ⟨b, ys, h.1, sqB_sq h.2, rfl⟩
        refine q_no (et_is (et_test (ev_neS (x := .int (xs.length : Int)) (y := .int (ys.length : Int)) rfl (len0 (Ex.refl _)) (len1 (Ex.refl _)))) (by rw [hlen]; simp)) fun H3 e3 => ?_
        have it : ∀ (j k : Nat) (c : Addr) (zs : List V) (x : V) (σ : L2.St) (H4 : Hp), σ[j]? = some (some (.ref c)) → σ[2]? = some (some (.int (k : Int))) → SqB K H4 l c zs → zs[k]? = some x → Ev T (tOp (rIxA K) (tVar j) (tVar 2)) σ H4 (fun v _ => v = x) := fun j k c zs x σ H4 hj h2 hs hx H5 e5 Q q => by
          refine ⟨_, hj, _, h2, ?_⟩
          rcases sqB_sq (hs.ex e5) with h | h
          · exact .inl ⟨c, zs, _, x, rfl, rfl, h, atI_nat hx, q _ _ (Ex.refl _) rfl⟩
          · exact .inr ⟨c, zs, _, x, rfl, rfl, h, atI_nat hx, q _ _ (Ex.refl _) rfl⟩
        have E3 := (e1.trans e2).trans e3
        refine s_ret (T := T) (P := fun v _ => v = .bl true) ((ev_eqNil (n := 0) (Pd := fun (i : Nat) => eqI (i : Int)) (g := fun (i : Nat) => .int (i : Int)) (ds := (List.range ys.length).filter fun _ => false) (fun _ _ _ h => dp_I h) (fun _ => nice_int) (ev_lcR (Pe := fun (i : Nat) => eqI (i : Int)) (fun _ => false) (ea_consV (len1 e3) ea_nil) (fun _ => stb_eqI) (by omega) (fun x => rfl) (fun i H4 hi e4 => ?_) (fun i H4 hi e4 hf => by cases hf)) (by omega)).imp fun v _ _ h => ?_) fun v H4 e4 hv => q _ _ (E3.trans e4) hv
        · have hx : xs[i]? = some xs[i] := List.getElem?_eq_getElem (by omega)
          obtain ⟨y, hy, hsm⟩ := paired_get hp hx
          refine et_is (et_not (et_B (ev_dfn (T := T) (P := fun v _ => v = .bl true) (ea_consV (it 0 i a xs _ _ _ rfl rfl (s1''.ex (e3.trans e4)) hx) (ea_consV (it 1 i b ys _ _ _ rfl rfl (s2''.ex (e3.trans e4)) hy) ea_nil)) fun vs H5 e5 ev Q q => ?_))) rfl
          subst ev
          exact ⟨_, _, m, rfl, by omega, hsm.ex ((E3.trans e4).trans e5), q⟩
        · rw [h]
          simp
theorem ev_alike {σ : L2.St} {H : Hp} {ta tb : TE} {n m : Nat} {Pa Pb : V → Hp → Prop} (h : Ev T ta σ H Pa) (sa : ∀ v H H', Ex T H H' → Pa v H → Pa v H') (h2 : Ev T tb σ H Pb) (hm : m < n) (hs : ∀ v v' H1, Ex T H H1 → Pa v H1 → Pb v' H1 → Same K m v v' H1) : Ev T (tDfn (sp_alike T K n) (tCons ta (tCons tb tNil))) σ H (fun v _ => v = .bl true) := fun H1 e Q q =>
  h H1 e _ fun x H2 e2 px => h2 H2 (e.trans e2) _ fun y H3 e3 py => ⟨x, y, m, rfl, hm, hs _ _ _ ((e.trans e2).trans e3) (sa _ _ _ e3 px) py, fun v H4 e4 hv => q _ _ ((e2.trans e3).trans e4) hv⟩
end
end WI
set_option maxRecDepth 100000
/-! Plain: the fewest is one number, lots in order. -/
namespace WI
theorem fewest_uniq {ws : List Wall} {o o' : Option Int} (h : Fewest ws o) (h' : Fewest ws o') : o = o' := by
  cases o with
  | none =>
    cases o' with
    | none => rfl
    | some m =>
      obtain ⟨⟨lot, h1, h2, _⟩, _⟩ := h'
      exact absurd h2 (h lot h1)
  | some m =>
    cases o' with
    | none =>
      obtain ⟨⟨lot, h1, h2, _⟩, _⟩ := h
      exact absurd h2 (h' lot h1)
    | some m' =>
      obtain ⟨⟨lot, h1, h2, h3⟩, h4⟩ := h
      obtain ⟨⟨lot', h1', h2', h3'⟩, h4'⟩ := h'
      have a := h4 lot' h1' h2'
      have b := h4' lot h1 h2
      congr 1
      omega
theorem allL_nodup : ∀ n, (allL n).Nodup
  | 0 => by simp [allL]
  | n + 1 => by
    show (allL n ++ (allL n).map (· ++ [(n : Int)])).Nodup
    rw [List.nodup_append]
    refine ⟨allL_nodup n, ?_, fun a ha b hb e => ?_⟩
    · exact List.Pairwise.map _ (fun a b h e => h (List.append_cancel_right e)) (allL_nodup n)
    · obtain ⟨l, hl, rfl⟩ := List.mem_map.mp hb
      subst e
      have := (mem_allL.mp ha).inn (n : Int) (by simp)
      omega
theorem sorted_unique {α : Type} {le : α → α → Bool} (anti : ∀ a b, le a b = true → le b a = true → a = b) : ∀ {l m : List α}, l.Pairwise (fun a b => le a b = true) → m.Pairwise (fun a b => le a b = true) → l.Perm m → l = m
  | [], m, _, _, p => (List.perm_nil.mp p.symm).symm
  | x :: l, [], _, _, p => absurd (List.perm_nil.mp p) (by simp)
  | x :: l, y :: m, hl, hm, p => by
    obtain ⟨h1, h2⟩ := List.pairwise_cons.mp hl
    obtain ⟨h3, h4⟩ := List.pairwise_cons.mp hm
    have e : x = y := by
      rcases List.mem_cons.mp (p.mem_iff.mp (List.mem_cons_self (a := x) (l := l))) with hx | hx
      · exact hx
      · rcases List.mem_cons.mp (p.mem_iff.mpr (List.mem_cons_self (a := y) (l := m))) with hy | hy
        · exact hy.symm
        · exact anti _ _ (h1 y hy) (h3 x hx)
    subst e
    rw [sorted_unique anti h2 h4 (List.perm_cons x |>.mp p)]
theorem lexLe_trans (a b c : List Int) (h1 : lexLe a b = true) (h2 : lexLe b c = true) : lexLe a c = true := by
  unfold lexLe at *
  simp only [decide_eq_true_eq] at *
  exact List.le_trans h1 h2
theorem lexLe_total (a b : List Int) : (lexLe a b || lexLe b a) = true := by
  unfold lexLe
  rcases List.le_total a b with h | h <;> simp [h]
theorem lexLe_anti (a b : List Int) (h1 : lexLe a b = true) (h2 : lexLe b a = true) : a = b := by
  unfold lexLe at *
  simp only [decide_eq_true_eq] at *
  exact List.le_antisymm h1 h2
theorem lotLe_trans (a b c : List Int) (h1 : lotLe a b = true) (h2 : lotLe b c = true) : lotLe a c = true := by
  unfold lotLe at *
  simp only [decide_eq_true_eq] at *
  rcases h1 with h1 | ⟨h1, h1'⟩
  · rcases h2 with h2 | ⟨h2, _⟩ <;> exact .inl (by omega)
  · rcases h2 with h2 | ⟨h2, h2'⟩
    · exact .inl (by omega)
    · exact .inr ⟨by omega, List.le_trans h1' h2'⟩
theorem lotLe_total (a b : List Int) : (lotLe a b || lotLe b a) = true := by
  unfold lotLe
  simp only [Bool.or_eq_true, decide_eq_true_eq]
  by_cases h : a.length < b.length
  · exact .inl (.inl h)
  · by_cases h' : b.length < a.length
    · exact .inr (.inl h')
    · rcases List.le_total a b with z | z
      · exact .inl (.inr ⟨by omega, z⟩)
      · exact .inr (.inr ⟨by omega, z⟩)
/-- the lots of one length, in the order of lots: as they are sorted alone -/
theorem chosen_sorted {l : List (List Int)} {p : List Int → Bool} {m : Int} (hp : ∀ d, p d = true → (d.length : Int) = m) : (l.mergeSort lotLe).filter p = (l.filter p).mergeSort lexLe := by
  refine sorted_unique lexLe_anti ?_ (List.pairwise_mergeSort lexLe_trans lexLe_total _) (((List.mergeSort_perm l lotLe).filter p).trans (List.mergeSort_perm _ _).symm)
  have h := (List.pairwise_mergeSort lotLe_trans lotLe_total l).sublist (List.filter_sublist (p := p))
  refine h.imp_of_mem fun {a b} ha hb hab => ?_
  have h1 := hp a (List.mem_filter.mp ha).2
  have h2 := hp b (List.mem_filter.mp hb).2
  unfold lotLe at hab
  unfold lexLe
  simp only [decide_eq_true_eq] at *
  rcases hab with z | ⟨_, z⟩
  · omega
  · exact z
/-- the good lots, each with its length -/
noncomputable def gsOf (ws : List Wall) (ls : List (List Int)) : List (Int × List Int) := (ls.filter fun lot => tv (Good (turn lot ws))).map fun lot => ((lot.length : Int), lot)
theorem gs_fewest {ws : List Wall} {g : Int × List Int} (hg : g ∈ gsOf ws (allL ws.length)) (hm : ∀ g' ∈ gsOf ws (allL ws.length), g.1 ≤ g'.1) : Fewest ws (some g.1) := by
  obtain ⟨lot, hl, rfl⟩ := List.mem_map.mp hg
  obtain ⟨h1, h2⟩ := List.mem_filter.mp hl
  refine ⟨⟨lot, mem_allL.mp h1, tv_iff.mp h2, rfl⟩, fun lot' h1' h2' => ?_⟩
  exact hm _ (List.mem_map.mpr ⟨lot', List.mem_filter.mpr ⟨mem_allL.mpr h1', tv_true h2'⟩, rfl⟩)
theorem gs_none {ws : List Wall} (h : gsOf ws (allL ws.length) = []) : Fewest ws none := fun lot h1 h2 => by
  have : ((lot.length : Int), lot) ∈ gsOf ws (allL ws.length) := List.mem_map.mpr ⟨lot, List.mem_filter.mpr ⟨mem_allL.mpr h1, tv_true h2⟩, rfl⟩
  rw [h] at this
  cases this
/-- those of the fewest -/
theorem gs_sorted {ws : List Wall} {m : Int} : ((gsOf ws (allL ws.length)).filter fun g => decide (g.1 = m)).map (·.2) = (allL ws.length).filter fun lot => decide ((lot.length : Int) = m) && tv (Good (turn lot ws)) := by
  unfold gsOf
  rw [List.filter_map, List.map_map, List.filter_filter]
  exact List.map_id _
theorem chL_some {ws : List Wall} {m : Int} : chL ws (some m) = (((gsOf ws (allL ws.length)).filter fun g => decide (g.1 = m)).map (·.2)).mergeSort lexLe := by
  rw [gs_sorted]
  exact chosen_sorted fun d h => by
    rw [Bool.and_eq_true] at h
    exact of_decide_eq_true h.1
theorem gs_ne {ws : List Wall} {m : Int} (h2 : 2 ≤ (((gsOf ws (allL ws.length)).filter fun g => decide (g.1 = m)).map (·.2)).length) : ∀ d ∈ ((gsOf ws (allL ws.length)).filter fun g => decide (g.1 = m)).map (·.2), d ≠ [] := by
  rw [gs_sorted] at h2 ⊢
  intro d hd e
  subst e
  have hm : m = 0 := by
    have := (List.mem_filter.mp hd).2
    rw [Bool.and_eq_true] at this
    exact (of_decide_eq_true this.1).symm
  have nd := (allL_nodup ws.length).filter (fun lot => decide ((lot.length : Int) = m) && tv (Good (turn lot ws)))
  have all : ∀ x ∈ (allL ws.length).filter (fun lot => decide ((lot.length : Int) = m) && tv (Good (turn lot ws))), x ∈ [([] : List Int)] := fun x hx => by
    have := (List.mem_filter.mp hx).2
    rw [Bool.and_eq_true] at this
    have h3 := of_decide_eq_true this.1
    rw [hm] at h3
    have : x = [] := List.eq_nil_of_length_eq_zero (by omega)
    simp [this]
  have hl : ∀ {l : List (List Int)}, l.Nodup → (∀ x ∈ l, x ∈ [([] : List Int)]) → l.length ≤ 1 := fun {l} nd h => by
    match l, nd, h with
    | [], _, _ => simp
    | [x], _, _ => simp
    | x :: y :: l, nd, h =>
      have h1 : x = [] := by simpa using h x (by simp)
      have h2 : y = [] := by simpa using h y (by simp)
      have := (List.nodup_cons.mp nd).1
      rw [h1, h2] at this
      exact absurd (List.mem_cons_self ..) this
  have := hl nd all
  omega
theorem mem_chL {ws : List Wall} {m : Int} {lot : List Int} (h : lot ∈ chL ws (some m)) : IsLot ws.length lot ∧ Good (turn lot ws) ∧ (lot.length : Int) = m := by
  obtain ⟨h1, h2⟩ := List.mem_filter.mp h
  rw [Bool.and_eq_true] at h2
  exact ⟨mem_allL.mp (List.mem_mergeSort.mp h1), tv_iff.mp h2.2, of_decide_eq_true h2.1⟩
theorem chL_ne {ws : List Wall} {m : Int} (h : Fewest ws (some m)) : chL ws (some m) ≠ [] := by
  obtain ⟨⟨lot, h1, h2, h3⟩, _⟩ := h
  have : lot ∈ chL ws (some m) := List.mem_filter.mpr ⟨List.mem_mergeSort.mpr (mem_allL.mpr h1), by rw [Bool.and_eq_true]; exact ⟨decide_eq_true h3, tv_true h2⟩⟩
  exact List.ne_nil_of_mem this
theorem chL_len {ws : List Wall} {o : Option Int} (h : ws.length ≤ 12) : (chL ws o).length ≤ 4096 := by
  cases o with
  | none => exact Nat.zero_le _
  | some m =>
    have h1 : (chL ws (some m)).length ≤ ((allL ws.length).mergeSort lotLe).length := List.length_filter_le _ _
    rw [List.length_mergeSort, allL_len] at h1
    have : 2 ^ ws.length ≤ 2 ^ 12 := Nat.pow_le_pow_right (by omega) h
    have h4096 : (2 : Nat) ^ 12 = 4096 := rfl
    omega
theorem lot_len {n : Nat} {lot : List Int} (h : IsLot n lot) : lot.length ≤ n := by
  have h2 := length_le_of_subset (nodup_of_up h.up) (m := evL n) fun x hx => by
    have := h.inn x hx
    exact List.mem_map.mpr ⟨x.toNat, List.mem_range.mpr (by omega), by omega⟩
  simpa [evL] using h2
/-- the sides with a lot turned -/
theorem sds_turn {lot : List Int} {ws : List Wall} : ((turn lot ws).map (·.sd)).length = ws.length := by rw [List.length_map, turn_len]
end WI
set_option maxRecDepth 100000
/-! The law. -/
namespace WI
open PySem PySem.Spec L2 LamX RZ StX
section
variable {T : LTab} {P : Program} {w : World} {K : PySem.W.Frag} {mg : Str → Option Value} {base : Heap}
theorem ev_with_sides {σ : L2.St} {H : Hp} {ta tb : TE} {many : Int} {ws : List Wall} {sds : List Int} (h : Ev T ta σ H (YT K many ws)) (h2 : Ev T tb σ H (IT K sds)) (ho : YOk many ws) (hl : sds.length = ws.length) (hs : ∀ s ∈ sds, SdOk s) : Ev T (tDfn (sp_with_sides T K) (tCons ta (tCons tb tNil))) σ H (YT K many (resides ws sds)) :=
  ev_dfn (ea_two h YT.stb h2) fun vs H1 e ⟨v, v', ev, p, p'⟩ Q q => ⟨v, v', many, ws, sds, ev, p, ho, p', hl, hs, q⟩
theorem ev_sides_of_yard {σ : L2.St} {H : Hp} {ta : TE} {many : Int} {ws : List Wall} (h : Ev T ta σ H (YT K many ws)) (ho : YOk many ws) : Ev T (tDfn (sp_sides_of_yard T K) (tCons ta tNil)) σ H (IT K (ws.map (·.sd))) :=
  ev_dfn (ea_one h) fun vs H1 e ⟨v, ev, p⟩ Q q => ⟨v, many, ws, ev, p, ho, q⟩
theorem ev_turned {σ : L2.St} {H : Hp} {ta tb : TE} {many : Int} {ws : List Wall} {lot : List Int} (h : Ev T ta σ H (YT K many ws)) (h2 : Ev T tb σ H (IT K lot)) (ho : YOk many ws) (hl : IsLot ws.length lot) (h12 : lot.length ≤ 12) : Ev T (tDfn (sp_turned T K) (tCons ta (tCons tb tNil))) σ H (YT K many (turn lot ws)) :=
  ev_dfn (ea_two h YT.stb h2) fun vs H1 e ⟨v, v', ev, p, p'⟩ Q q => ⟨v, v', many, ws, lot, ev, p, ho, p', hl, h12, q⟩
theorem ev_change_lots {σ : L2.St} {H : Hp} {ta : TE} {many : Int} {ws : List Wall} (hT : Tabs T H) (h : Ev T ta σ H (YT K many ws)) (ho : YOk many ws) : Ev T (tDfn (sp_change_lots T K) (tCons ta tNil)) σ H (fun v H => ∃ o, Fewest ws o ∧ LL (IT K) (chL ws o) v H) :=
  ev_dfn (ea_one h) fun vs H1 e ⟨v, ev, p⟩ Q q => ⟨v, many, ws, ev, e.tabs hT, p, ho, q⟩
theorem er_law_yard {a sl : Addr} {sn : List Int} {σ : L2.St} {H : Hp} {ta : TA} {rooms shuts : Int} (hR : RowAt K a sl sn H) (h : EvA T ta σ H (fun vs _ => vs = [.ref a, .int rooms, .int shuts, .int 1])) (h1 : 1 ≤ rooms) (h2 : rooms ≤ 9) (h3 : 0 ≤ shuts) (h4 : shuts ≤ 12) :
    EvR T K a sl sn (tDfn (sp_law_yard T K) ta) σ H (fun v H' => ∃ many ws, YT K many ws v H' ∧ YOk many ws ∧ (ws.length : Int) ≤ shuts) := fun Q q =>
  h H (Ex.refl H) _ fun vs H1 e ev => by
    subst ev
    exact ⟨a, sl, sn, rooms, shuts, rfl, hR.ex e, h1, h2, h3, h4, fun v H' e' r p => q v H' (hid_step hR e e') r p⟩
theorem er_law_some {a sl : Addr} {sn : List Int} {σ : L2.St} {H : Hp} {ta : TA} {n : Nat} (hR : RowAt K a sl sn H) (h : EvA T ta σ H (fun vs _ => vs = [.ref a, .int (n : Int)])) (h1 : n ≤ 12) :
    EvR T K a sl sn (tDfn (sp_law_some T K) ta) σ H (fun v H' => ∃ lot, IT K lot v H' ∧ IsLot n lot ∧ lot.length ≤ 12) := fun Q q =>
  h H (Ex.refl H) _ fun vs H1 e ev => by
    subst ev
    exact ⟨a, sl, sn, n, rfl, hR.ex e, h1, fun v H' e' r p => q v H' (hid_step hR e e') r p⟩
/-- a yard as data -/
def dY (many : Int) (ws : List Wall) : PyData := .tuple [.int many, .tuple (ws.map fun w => dI w.l)]
theorem dp_YT {many : Int} {ws : List Wall} {v : V} {H : Hp} (h : YT K many ws v H) : Dp K H v (dY many ws) := by
  obtain ⟨a, b, rfl, hs, ht⟩ := h
  exact .tup hs (.cons (.int _) (.cons (dp_TT (P := WV K) (fun _ _ h => dp_IT h) ht) .nil))
theorem nice_dY {many : Int} {ws : List Wall} : Nice 3 (dY many ws) := nice_tup fun d hd => by
  rcases List.mem_cons.mp hd with rfl | hd
  · exact nice_int.mono (by omega)
  · rw [List.mem_singleton.mp hd]
    exact nice_tup (nice_map fun _ _ => nice_dI)
/-- the same data are not unlike -/
theorem ev_neSame {σ : L2.St} {H : Hp} {ta tb : TE} {d : PyData} {n : Nat} (ha : Ev T ta σ H (fun v H1 => Dp K H1 v d)) (hb : Ev T tb σ H (fun v H1 => Dp K H1 v d)) (hn : Nice n d) (k : n ≤ 60) : Ev T (tOp (rNeD K) ta tb) σ H (fun v _ => v = .bl false) :=
  (ev_neD ha hb (hn.shaped (by omega)) (hn.shaped (by omega))).imp fun v _ _ e => by
    rw [e, PySem.SeqAt.eqv_refl d hn.1]
    rfl
/-- the sides with a lot turned, as the law writes them -/
theorem ev_sdsLaw {σ : L2.St} {H : Hp} {vl vt : V} {lot : List Int} {ws : List Wall} {i6 i7 i3 j : Nat} {vs : List Nat} (hlen : ws.length ≤ 12) (h3 : σ[i3]? = some (some (.int (ws.length : Int)))) (hl : IT K lot vl H) (ht : IT K (ws.map (·.sd)) vt H)
    (hw : ∀ x, wipe ((wipe σ vs).set j (some x)) vs = wipe σ vs) (hj : ∀ x, ((wipe σ vs).set j (some x))[j]? = some (some x)) (h6 : ∀ x, ((wipe σ vs).set j (some x))[i6]? = some (some vl)) (h7 : ∀ x, ((wipe σ vs).set j (some x))[i7]? = some (some vt)) :
    Ev T (tThen (tLc (iRng1 (tCons (tVar i3) tNil)) (gName j) tYes (tIf (tAnd (tTest (tOp (rIn K false) (tVar j) (tVar i6))) (tTest (tOp (rI0 fun i j => .bl (decide (i < j))) (tOp (rIxT K) (tVar i7) (tVar j)) (tC (.int 2))))) (tOp (rI0 fun i j => .int (i - j)) (tC (.int 1)) (tOp (rIxT K) (tVar i7) (tVar j))) (tOp (rIxT K) (tVar i7) (tVar j))) vs) (kTup K)) σ H (IT K ((turn lot ws).map (·.sd))) := by
  have hm : (List.range ws.length).map (fun i => ((turn lot ws).map (·.sd)).getD i 0) = (turn lot ws).map (·.sd) := by
    apply List.ext_getElem?
    intro i
    rw [List.getElem?_map]
    have hl2 := sds_turn (lot := lot) (ws := ws)
    by_cases h : i < ws.length
    · rw [List.getElem?_range h, List.getElem?_eq_getElem (by omega)]
      simp [List.getD_eq_getElem?_getD, List.getElem?_eq_getElem (show i < ((turn lot ws).map (·.sd)).length by omega), List.getElem?_eq_getElem (show i < (turn lot ws).length by rw [turn_len]; omega)]
    · rw [List.getElem?_eq_none (by rw [List.length_range]; omega), List.getElem?_eq_none (by omega)]
      rfl
  have lc := ev_lcR (T := T) (H := H) (σ := σ) (j := j) (vs := vs) (n := ws.length) (tt := tYes) (ta := tCons (tVar i3) tNil)
    (te := tIf (tAnd (tTest (tOp (rIn K false) (tVar j) (tVar i6))) (tTest (tOp (rI0 fun i j => .bl (decide (i < j))) (tOp (rIxT K) (tVar i7) (tVar j)) (tC (.int 2))))) (tOp (rI0 fun i j => .int (i - j)) (tC (.int 1)) (tOp (rIxT K) (tVar i7) (tVar j))) (tOp (rIxT K) (tVar i7) (tVar j)))
    (Pe := fun i => eqI (((turn lot ws).map (·.sd)).getD i 0)) (fun _ => true) (ea_consV (ev_var h3) ea_nil) (fun _ => stb_eqI) (by omega) hw (fun _ _ _ _ => et_yes) (fun i H1 hi e1 _ => by
      have hwl : ws[i]? = some ws[i] := List.getElem?_eq_getElem hi
      have sdi : (ws.map (·.sd))[i]? = some ws[i].sd := by rw [List.getElem?_map, hwl]; rfl
      have tg : ((turn lot ws).map (·.sd)).getD i 0 = (turnAt lot i ws[i]).sd := by
        rw [List.getD_eq_getElem?_getD, List.getElem?_map, turn_get, hwl]
        rfl
      rw [tg]
      generalize ws[i] = wl at sdi
      have w7 : ∀ {H2}, Ex T H1 H2 → Ev T (tOp (rIxT K) (tVar i7) (tVar j)) ((wipe σ vs).set j (some (.int (i : Int)))) H2 (fun v _ => v = .int wl.sd) := fun e =>
        ev_ixT (K := K) (P := eqI) (i := i) (fun _ => stb_eqI) ((ev_varP IT.stb (h7 _) (IT.stb.ex ht (e1.trans e))).imp fun v H _ h => h.tt) (ev_var (hj _)) sdi
      have c1 := et_test (ev_inT (T := T) (K := K) (neg := false) (i := (i : Int)) (ns := lot) (ev_var (H := H1) (hj (.int (i : Int)))) (ev_varP IT.stb (h6 _) (IT.stb.ex hl e1)))
      have c2 := et_test (ev_I0 (g := fun i j => .bl (decide (i < j))) (w7 (Ex.refl _)) (ev_c (v := .int 2)))
      exact ev_if (et_and c1 fun _ => c2) (P := fun v _ => v = .int (turnAt lot i wl).sd)
        (fun hb => (ev_I0 (g := fun i j => V.int (i - j)) ev_c (w7 (Ex.refl _))).imp fun v _ _ hv => hv.trans (congrArg V.int (by
          simp at hb
          unfold turnAt
          rw [if_pos hb]
          rfl)))
        (fun hb => (w7 (Ex.refl _)).imp fun v _ _ hv => hv.trans (congrArg V.int (by
          simp at hb
          unfold turnAt
          rw [if_neg (fun z => absurd z.2 (by have := hb z.1; omega))]))))
  rw [filt_true] at lc
  refine (ev_tupleOf (K := K) (P := eqI) (ds := (turn lot ws).map (·.sd)) (fun _ => stb_eqI) (lc.imp fun v H _ h => ?_)).imp fun v H _ h => h.it
  rw [← hm]
  exact LL.map h
theorem sdok {many : Int} {ws : List Wall} (ho : YOk many ws) : ∀ s ∈ ws.map (·.sd), SdOk s := fun s hs => by
  obtain ⟨wl, hw, rfl⟩ := List.mem_map.mp hs
  exact (ho.wo wl hw).hs
theorem q_parL {σ : L2.St} {H : Hp} {i j : Nat} {ta tb : TE} {tz : TS} {D : Ends} {Pa : V → Hp → Prop} (h : Ev T ta σ H Pa) (k : ∀ v H1, Ex T H H1 → Pa v H1 → tb σ H1 (fun w H2 => ∃ v' w', [v, w] = [v', w'] ∧ tz D ((σ.set i (some v')).set j (some w')) H2)) : tSeq (tPar i j (tCons ta (tCons tb tNil))) tz D σ H := h.go k
/-- what is told to be empty -/
theorem ev_eqNilE {σ : L2.St} {H : Hp} {te : TE} {ws : List Wall} (h : Ev T te σ H (fun v H => ∃ o, Fewest ws o ∧ LL (IT K) (chL ws o) v H)) (hn : ∀ o, Fewest ws o → chL ws o = []) : Ev T (tOp (rEqD K) te (tLst tNil)) σ H (fun v _ => v = .bl true) := by
  have h2 : Ev T te σ H (LL (IT K) []) := h.imp fun v H _ ⟨o, hf, hl⟩ => by rw [hn o hf] at hl; exact hl
  exact (ev_eqNil (Pd := IT K) (g := dI) (n := 1) (fun _ _ _ h => dp_IT h) (fun _ => nice_dI) h2 (by omega)).imp fun v _ _ e => by rw [e]; simp
/-- a number and a lot, displayed -/
theorem ev_GV {σ : L2.St} {H : Hp} {ta tb : TE} {n : Int} {lot : List Int} (ha : Ev T ta σ H (fun v _ => v = .int n)) (hb : Ev T tb σ H (IT K lot)) : Ev T (tTup (tCons ta (tCons tb tNil))) σ H (GV K (n, lot)) := fun H1 e Q q =>
  ha H1 e _ fun v H2 e2 hv => hb H2 (e.trans e2) _ fun y H3 e3 hy => by
    subst hv
    refine ⟨by show 2 ≤ sizeLine; decide, fun p np => q _ _ ((e2.trans e3).trans (Ex.new np)) ⟨p, y, rfl, .of upd_same, IT.stb.ex (T := T) hy (Ex.new np)⟩⟩
theorem gs_succ {ws : List Wall} {l : List (List Int)} {i : Nat} {lot : List Int} (h : l[i]? = some lot) : gsOf ws (l.take (i + 1)) = if tv (Good (turn lot ws)) = true then gsOf ws (l.take i) ++ [((lot.length : Int), lot)] else gsOf ws (l.take i) := by
  unfold gsOf
  rw [List.take_add_one, h, List.filter_append, List.map_append]
  by_cases q : tv (Good (turn lot ws)) = true
  · rw [if_pos q]; simp [q]
  · rw [if_neg q]; simp [q]
theorem gs_len {ws : List Wall} {l : List (List Int)} : (gsOf ws l).length ≤ l.length := by
  unfold gsOf
  rw [List.length_map]
  exact List.length_filter_le _ _
/-- over a list of pairs, the target two names -/
theorem ev_lcG {α : Type} {tl te : TE} {tt : L2.TT} {σ : L2.St} {H : Hp} {j1 j2 : Nat} {vs : List Nat} {Pe : (Int × List Int) → V → Hp → Prop} {ds : List (Int × List Int)} (f : (Int × List Int) → Bool) (h : Ev T tl σ H (LL (GV K) ds)) (sPe : ∀ d, Stb (Pe d)) (hz : ds.length ≤ 40000)
    (hw : ∀ x y, wipe (((wipe σ vs).set j1 (some x)).set j2 (some y)) vs = wipe σ vs)
    (ht : ∀ d y H1, d ∈ ds → Ex T H H1 → IT K d.2 y H1 → EvT T tt (((wipe σ vs).set j1 (some (.int d.1))).set j2 (some y)) H1 (f d))
    (he : ∀ d y H1, d ∈ ds → Ex T H H1 → IT K d.2 y H1 → f d = true → Ev T te (((wipe σ vs).set j1 (some (.int d.1))).set j2 (some y)) H1 (Pe d)) :
    Ev T (tLc (iList K tl) (gTup K 2 (gCons (gName j1) (gCons (gName j2) gNil))) tt te vs) σ H (LL Pe (ds.filter f)) := fun H0 e Q q => h H0 e _ fun v H1 e1 hv => by
  obtain ⟨a, xs, rfl, hx, hp⟩ := hv
  have hl := Paired.length hp
  refine ⟨a, rfl, ⟨xs, .of hx⟩, fun D hD => lc_list (K := K) (a := a) (xs := xs) (fun i H' => Cw T Pe H1 D ((ds.take i).filter f) H') (by simpa using cw_start hD) (fun i H' _ p => .of (p.1.lst hx)) (fun i x H' hi p => ?_) (fun H' p => ?_)⟩
  · obtain ⟨d, hd, t, b, rfl, hs, hb⟩ := paired_get hp hi
    have hil := (List.getElem?_eq_some_iff.mp hd).1
    have hm := List.mem_of_getElem? hd
    refine ⟨t, _, rfl, p.1.sqt hs, rfl, _, _, rfl, _, _, rfl, rfl, ?_⟩
    exact ⟨hw _ _, cw_turn sPe p (filter_take_len f hz hil) (take_succ_filter hd f) ((ht d b H1 hm (e.trans e1) hb).mono p.1) fun hf => (he d b H1 hm (e.trans e1) hb hf).mono p.1⟩
  · obtain ⟨c1, c2, ys, c3, c4⟩ := p
    rw [hl, List.take_length] at c4
    exact q _ H' (e1.trans c1) ⟨D, ys, rfl, c3, c4⟩
theorem paired_both {α : Type} {F G : V → α → Prop} {R : V → V → Prop} : ∀ {xs ys : List V} {ds : List α}, Paired F xs ds → Paired G ys ds → (∀ d ∈ ds, ∀ x y, F x d → G y d → R x y) → Paired R xs ys
  | _, _, _, .nil, .nil, _ => .nil
  | _, _, _, .cons p t, .cons q u, h => .cons (h _ (List.mem_cons_self ..) _ _ p q) (paired_both t u fun d hd => h d (List.mem_cons_of_mem _ hd))
theorem same_IT {ns : List Int} {v v' : V} {H : Hp} (h : IT K ns v H) (h' : IT K ns v' H) (hz : ns.length ≤ 40000) : Same K 1 v v' H := by
  obtain ⟨a, rfl, ha⟩ := h
  obtain ⟨b, rfl, hb⟩ := h'
  refine ⟨false, a, b, _, _, rfl, rfl, .inr ⟨rfl, ha⟩, .inr ⟨rfl, hb⟩, by rw [List.length_map]; exact hz, ?_⟩
  clear ha hb hz
  induction ns with
  | nil => exact .nil
  | cons n ns ih => exact .cons (.inl ⟨n, rfl, rfl⟩) ih
theorem same_LL {ds : List (List Int)} {v v' : V} {H : Hp} (h : LL (IT K) ds v H) (h' : LL (IT K) ds v' H) (hz : ds.length ≤ 40000) (hd : ∀ d ∈ ds, d.length ≤ 40000) : Same K 2 v v' H := by
  obtain ⟨a, xs, rfl, ha, pa⟩ := h
  obtain ⟨b, ys, rfl, hb, pb⟩ := h'
  exact ⟨true, a, b, xs, ys, rfl, rfl, .inl ⟨rfl, ha⟩, .inl ⟨rfl, hb⟩, by rw [Paired.length pa]; exact hz, paired_both pa pb fun d hm x y hx hy => same_IT hx hy (hd d hm)⟩
theorem chL_short {ws : List Wall} {o : Option Int} (h12 : ws.length ≤ 12) : ∀ d ∈ chL ws o, d.length ≤ 40000 := fun d hd => by
  cases o with
  | none => cases hd
  | some m =>
    have := lot_len (mem_chL hd).1
    omega
/-- those of the fewest, by the law's own words -/
noncomputable def bestB (o : Option Int) (g : Int × List Int) : Bool := match o with
  | some m => decide (g.1 = m)
  | none => false
theorem best_sorted {ws : List Wall} {o : Option Int} (hn : o = none → gsOf ws (allL ws.length) = []) : (((gsOf ws (allL ws.length)).filter (bestB o)).map (·.2)).mergeSort lexLe = chL ws o ∧ (2 ≤ (((gsOf ws (allL ws.length)).filter (bestB o)).map (·.2)).length → ∀ d ∈ ((gsOf ws (allL ws.length)).filter (bestB o)).map (·.2), d ≠ []) := by
  cases o with
  | none =>
    rw [hn rfl]
    exact ⟨by simp [chL], fun h => absurd h (by decide)⟩
  | some m =>
    have e : (gsOf ws (allL ws.length)).filter (bestB (some m)) = (gsOf ws (allL ws.length)).filter fun g => decide (g.1 = m) := rfl
    rw [e]
    exact ⟨chL_some.symm, gs_ne⟩
def sp_law (T : LTab) (K : PySem.W.Frag) : Sp := fun vs H Q _ => ∃ (a : Addr) (sn : List Int), vs = [.ref a] ∧ Tabs T H ∧ SqL K H a (sn.map V.int) ∧ ∀ H', Q (.bl true) H'

theorem ok_law {f : Addr} {fd : FuncData} (F : Fun K "law" "law" s_law f fd) (G : Bn mg) (D_law_yard : Dfn P w K mg base 2 "_law_yard" ["_law_row", "_law_rooms", "_law_shuts", "_law_either"] (sp_law_yard T K)) (D_sides_of_yard : Dfn P w K mg base 5 "sides_of_yard" ["yard"] (sp_sides_of_yard T K)) (D_with_sides : Dfn P w K mg base 5 "with_sides" ["yard", "sides"] (sp_with_sides T K))
    (D_law_leaves : Dfn P w K mg base 4 "_law_leaves" ["_law_yard_here"] (sp_has_order T K)) (D_law_chosen : Dfn P w K mg base 1 "_law_chosen" ["_law_yard_here", "_law_sides_here"] (sp_law_chosen T K)) (D_law_alike : Dfn P w K mg base 4 "_law_alike" ["_law_found", "_law_due"] (sp_alike T K 3))
    (D_fewest_changes : Dfn P w K mg base 29 "fewest_changes" ["yard"] (sp_costs_to T K)) (D_change_lots : Dfn P w K mg base 29 "change_lots" ["yard"] (sp_change_lots T K)) (D_law_some : Dfn P w K mg base 2 "_law_some" ["_law_row", "_law_many"] (sp_law_some T K)) (D_turned : Dfn P w K mg base 5 "turned" ["yard", "lot"] (sp_turned T K))
    (D_has_order : Dfn P w K mg base 5 "has_order" ["yard"] (sp_has_order T K)) : FnOk P w K mg base CX0 30 f fd ["_law_script"] (sp_law T K) := by
  refine F.ok sc_law (fun vs H Q E h => ?_) (fun cdv A outer s H vs Q E hr h => ?_)
  · obtain ⟨a, sn, rfl, _⟩ := h
    rfl
  · obtain ⟨a, sn, rfl, hT, hs, q⟩ := h
    refine ⟨_, (pss_cons (ps_set (i := 1) sc_law.nd rfl (by first | exact Or.inl rfl | exact Or.inr rfl) (pe_lst (pa_cons (pv 0) (pa_cons pe_int (pa_cons pe_int (pa_cons pe_int pa_nil))))))
      (pss_cons (ps_set (i := 2) sc_law.nd rfl (by first | exact Or.inl rfl | exact Or.inr rfl) (pe_dfn D_law_yard (hr.mono (by decide)) (pa_cons (pv 1) (pa_cons pe_int (pa_cons pe_int (pa_cons pe_int pa_nil))))))
      (pss_cons (ps_par (i := 3) (j := 4) rfl sc_law.nd rfl rfl (by decide) rfl rfl (pa_cons (pe_callB (k_len K rfl) (by rfl) G.len_ PySem.boot_len (pa_cons (pe_ix (k_ix_tup K rfl) (pv 2) pe_int (fun _ _ => rfl)) pa_nil)) (pa_cons (pe_lst (pa_cons (pe_tup pa_nil) pa_nil)) pa_nil)) (by rfl))
      (pss_cons (ps_for PassesOwn.never rfl (pi_range1 (by rfl) G.range_ (pa_cons (pv 3) pa_nil)) (pg_name (i := 5) sc_law.nd rfl (by first | exact Or.inl rfl | exact Or.inr rfl)) (pss_one (ps_set (i := 4) sc_law.nd rfl (by first | exact Or.inl rfl | exact Or.inr rfl) (pe_op op_cat (pv 4) (pe_lc (own := [("_law_lot", 6)]) rfl sc_law.nd (k_list K (pv 4) rfl) (blkOk_by (own := [("_law_lot", 6)]) (N := N_law) (by show blkC _ (defScope s_law) _ _ = true; decide +kernel)) (fun _ _ _ _ _ => (pg_name (i := 6) sc_law.nd rfl (by first | exact Or.inl rfl | exact Or.inr rfl))) (fun _ _ _ _ _ => pts_nil) (fun _ _ _ _ _ => (pe_op (k_catA K rfl) (pv 6) (pe_tup (pa_cons (pv 5) pa_nil)))))))))
      (pss_cons (ps_set (i := 7) sc_law.nd rfl (by first | exact Or.inl rfl | exact Or.inr rfl) (k_tupleOf K (by rfl) G.tuple_ (pe_lc (own := [("_law_shut", 8)]) rfl sc_law.nd (k_tup K (pe_ix (k_ix_tup K rfl) (pv 2) pe_int (fun _ _ => rfl)) rfl) (blkOk_by (own := [("_law_shut", 8)]) (N := N_law) (by show blkC _ (defScope s_law) _ _ = true; decide +kernel)) (fun _ _ _ _ _ => (pg_name (i := 8) sc_law.nd rfl (by first | exact Or.inl rfl | exact Or.inr rfl))) (fun _ _ _ _ _ => pts_nil) (fun _ _ _ _ _ => (pe_ix (k_ix_tup K rfl) (pv 8) pe_int (fun _ _ => rfl)))) rfl))
      (pss_cons (ps_if (PW.pt (pw_or (pt_cmpR (k_neD K hr.units rfl) (pe_dfn D_sides_of_yard (hr.mono (by decide)) (pa_cons (pv 2) pa_nil)) (pv 7) (nomark _)) (pw_or1 (pt_cmpR (k_neD K hr.units rfl) (pe_dfn D_with_sides (hr.mono (by decide)) (pa_cons (pv 2) (pa_cons (pv 7) pa_nil))) (pv 2) (nomark _))))) (pss_one (ps_ret pe_bl)) pss_nil)
      (pss_cons (ps_set (i := 9) sc_law.nd rfl (by first | exact Or.inl rfl | exact Or.inr rfl) (pe_lst pa_nil))
      (pss_cons (ps_for PassesOwn.never rfl (k_list K (pv 4) rfl) (pg_name (i := 6) sc_law.nd rfl (by first | exact Or.inl rfl | exact Or.inr rfl)) (pss_cons (ps_set (i := 10) sc_law.nd rfl (by first | exact Or.inl rfl | exact Or.inr rfl) (k_tupleOf K (by rfl) G.tuple_ (pe_lc (own := [("_law_at", 11)]) rfl sc_law.nd (pi_range1 (by rfl) G.range_ (pa_cons (pv 3) pa_nil)) (blkOk_by (own := [("_law_at", 11)]) (N := N_law) (by show blkC _ (defScope s_law) _ _ = true; decide +kernel)) (fun _ _ _ _ _ => (pg_name (i := 11) sc_law.nd rfl (by first | exact Or.inl rfl | exact Or.inr rfl))) (fun _ _ _ _ _ => pts_nil) (fun _ _ _ _ _ => (pe_ifExp (PW.pt (pw_and (pt_cmpR (k_in K rfl) (pv 11) (pv 6) rfl) (pw_and1 (pt_cmpR op_lt (pe_ix (k_ix_tup K rfl) (pv 7) (pv 11) (fun _ _ => rfl)) pe_int (nomark _))))) (pe_op op_sub pe_int (pe_ix (k_ix_tup K rfl) (pv 7) (pv 11) (fun _ _ => rfl))) (pe_ix (k_ix_tup K rfl) (pv 7) (pv 11) (fun _ _ => rfl))))) rfl))
      (pss_one (ps_if (pt_val (pe_dfn D_law_leaves (hr.mono (by decide)) (pa_cons (pe_dfn D_law_chosen (hr.mono (by decide)) (pa_cons (pv 2) (pa_cons (pv 10) pa_nil))) pa_nil))) (pss_one (ps_expr (pe_bm PySem.F.plainAttrs_list PySem.F.slot_list_append PySem.F.type_list_append mt_append (pv 9) (pa_cons (pe_tup (pa_cons (pe_callB (k_len K rfl) (by rfl) G.len_ PySem.boot_len (pa_cons (pv 6) pa_nil)) (pa_cons (pv 6) pa_nil))) pa_nil)))) pss_nil))))
      (pss_cons (ps_set (i := 12) sc_law.nd rfl (by first | exact Or.inl rfl | exact Or.inr rfl) (pe_ifExp (pt_cmpR (k_neD K hr.units rfl) (pv 9) (pe_lst pa_nil) (nomark _)) (pe_ix (k_ix_tup K rfl) (pe_callB (cr_minG hr) (by rfl) G.min_ (by decide +kernel) (pa_cons (pv 9) pa_nil)) pe_int (fun _ _ => rfl)) pe_non))
      (pss_cons (ps_if (pt_not (pt_val (pe_dfn D_law_alike (hr.mono (by decide)) (pa_cons (pe_dfn D_fewest_changes (hr.mono (by decide)) (pa_cons (pv 2) pa_nil)) (pa_cons (pv 12) pa_nil))))) (pss_one (ps_ret pe_bl)) pss_nil)
      (pss_cons (ps_if (pt_not (pt_val (pe_dfn D_law_alike (hr.mono (by decide)) (pa_cons (pe_dfn D_change_lots (hr.mono (by decide)) (pa_cons (pv 2) pa_nil)) (pa_cons (pe_callB (cr_sortedL hr) (by rfl) G.sorted_ (by decide +kernel) (pa_cons (pe_lc (own := [("_law_size", 13), ("_law_lot", 6)]) rfl sc_law.nd (k_list K (pv 9) rfl) (blkOk_by (own := [("_law_size", 13), ("_law_lot", 6)]) (N := N_law) (by show blkC _ (defScope s_law) _ _ = true; decide +kernel)) (fun _ _ _ _ _ => (pg_two (K := K) (i := 13) (j := 6) rfl sc_law.nd rfl rfl (by first | exact Or.inl rfl | exact Or.inr rfl) (by first | exact Or.inl rfl | exact Or.inr rfl) (by first | exact Or.inl rfl | exact Or.inr rfl) (by first | exact Or.inl rfl | exact Or.inr rfl))) (fun _ _ _ _ _ => (pts_one (pt_cmpR op_eq (pv 13) (pv 12) (nomark _)))) (fun _ _ _ _ _ => (pv 6))) pa_nil)) pa_nil))))) (pss_one (ps_ret pe_bl)) pss_nil)
      (pss_cons (ps_set (i := 6) sc_law.nd rfl (by first | exact Or.inl rfl | exact Or.inr rfl) (pe_dfn D_law_some (hr.mono (by decide)) (pa_cons (pv 1) (pa_cons (pv 3) pa_nil))))
      (pss_cons (ps_set (i := 10) sc_law.nd rfl (by first | exact Or.inl rfl | exact Or.inr rfl) (k_tupleOf K (by rfl) G.tuple_ (pe_lc (own := [("_law_at", 11)]) rfl sc_law.nd (pi_range1 (by rfl) G.range_ (pa_cons (pv 3) pa_nil)) (blkOk_by (own := [("_law_at", 11)]) (N := N_law) (by show blkC _ (defScope s_law) _ _ = true; decide +kernel)) (fun _ _ _ _ _ => (pg_name (i := 11) sc_law.nd rfl (by first | exact Or.inl rfl | exact Or.inr rfl))) (fun _ _ _ _ _ => pts_nil) (fun _ _ _ _ _ => (pe_ifExp (PW.pt (pw_and (pt_cmpR (k_in K rfl) (pv 11) (pv 6) rfl) (pw_and1 (pt_cmpR op_lt (pe_ix (k_ix_tup K rfl) (pv 7) (pv 11) (fun _ _ => rfl)) pe_int (nomark _))))) (pe_op op_sub pe_int (pe_ix (k_ix_tup K rfl) (pv 7) (pv 11) (fun _ _ => rfl))) (pe_ix (k_ix_tup K rfl) (pv 7) (pv 11) (fun _ _ => rfl))))) rfl))
      (pss_cons (ps_if (PW.pt (pw_or (pt_cmpR (k_neD K hr.units rfl) (pe_dfn D_turned (hr.mono (by decide)) (pa_cons (pv 2) (pa_cons (pv 6) pa_nil))) (pe_dfn D_with_sides (hr.mono (by decide)) (pa_cons (pv 2) (pa_cons (pv 10) pa_nil))) (nomark _)) (pw_or1 (pt_cmpR (k_neD K hr.units rfl) (pe_dfn D_turned (hr.mono (by decide)) (pa_cons (pe_dfn D_turned (hr.mono (by decide)) (pa_cons (pv 2) (pa_cons (pv 6) pa_nil))) (pa_cons (pv 6) pa_nil))) (pv 2) (nomark _))))) (pss_one (ps_ret pe_bl)) pss_nil)
      (pss_cons (ps_set (i := 14) sc_law.nd rfl (by first | exact Or.inl rfl | exact Or.inr rfl) (pe_dfn D_law_yard (hr.mono (by decide)) (pa_cons (pv 1) (pa_cons pe_int (pa_cons pe_int (pa_cons pe_int pa_nil))))))
      (pss_cons (ps_set (i := 15) sc_law.nd rfl (by first | exact Or.inl rfl | exact Or.inr rfl) (pe_dfn D_fewest_changes (hr.mono (by decide)) (pa_cons (pv 14) pa_nil)))
      (pss_cons (ps_if (pt_cmpR op_isN (pv 15) pe_non (nomark _)) (pss_one (ps_ret (pe_and (pe_cmpR op_is_bl (pe_dfn D_has_order (hr.mono (by decide)) (pa_cons (pv 14) pa_nil)) pe_bl (nomark _)) (pe_one (pe_cmpR (k_eqD K hr.units rfl) (pe_dfn D_change_lots (hr.mono (by decide)) (pa_cons (pv 14) pa_nil)) (pe_lst pa_nil) (nomark _)))))) pss_nil)
      (pss_cons (ps_set (i := 16) sc_law.nd rfl (by first | exact Or.inl rfl | exact Or.inr rfl) (pe_dfn D_change_lots (hr.mono (by decide)) (pa_cons (pv 14) pa_nil)))
      (pss_cons (ps_if (pt_not (PW.pt (pw_and (pt_cmpR op_eq (pe_cmpR op_eq (pv 15) pe_int (nomark _)) (pe_dfn D_has_order (hr.mono (by decide)) (pa_cons (pv 14) pa_nil)) (nomark _)) (pw_and (pt_cmpR (k_neD K hr.units rfl) (pv 16) (pe_lst pa_nil) (nomark _)) (pw_and1 (pt_val (pe_dfn D_has_order (hr.mono (by decide)) (pa_cons (pe_dfn D_turned (hr.mono (by decide)) (pa_cons (pv 14) (pa_cons (pe_ix (k_ix_list K rfl) (pv 16) pe_int (fun _ _ => rfl)) pa_nil))) pa_nil)))))))) (pss_one (ps_ret pe_bl)) pss_nil)
      (pss_one (ps_ret (pe_cmpR op_eq (pe_callB (k_len K rfl) (by rfl) G.len_ PySem.boot_len (pa_cons (pe_ix (k_ix_list K rfl) (pv 16) pe_int (fun _ _ => rfl)) pa_nil)) (pv 15) (nomark _))))))))))))))))))))))), ?_⟩
    have sI : ∀ d, Stb (IT K d) := fun _ => IT.stb
    -- the row
    refine ⟨_, rfl, by show 4 ≤ sizeLine; decide, fun ra nra => ?_⟩
    have E1 : Ex T H (upd H ra (.lst [.ref a, .int 0, .int 4726, .int 0])) := Ex.new nra
    have R1 : RowAt K ra a sn (upd H ra (.lst [.ref a, .int 0, .int 4726, .int 0])) := ⟨0, 4726, 0, upd_same, hid_sqlB E1 nra hs, Int.le_refl 0⟩
    -- the yard
    refine q_asgR (T := T) (K := K) (a := ra) (sl := a) (sn := sn) (er_law_yard R1 (ea_consV (ev_var (i := 1) rfl) (ea_consV ev_c (ea_consV ev_c (ea_consV ev_c ea_nil)))) (by decide) (by decide) (by decide) (by decide)) fun vy H2 e2 R2 ⟨many, ws, hy, ho, _⟩ => ?_
    have E2 := hid_stepB R1 E1 nra e2
    have h12 := ho.wl
    have y0 : ∀ {σ H'}, σ[2]? = some (some vy) → Ex T H2 H' → Ev T (tVar 2) σ H' (YT K many ws) := fun h e => ev_varP YT.stb h (YT.stb.ex hy e)
    -- many, lots
    refine q_parL (T := T) (ev_lenT (K := K) (ev_yard1 (K := K) (y0 rfl (Ex.refl _)) (ev_c (v := .int 1)))) fun v3 H3 e3 hv3 => ?_
    subst hv3
    refine ⟨Nat.zero_le _, fun t nt => ⟨by show 1 ≤ sizeLine; decide, fun p np => ⟨_, _, rfl, ?_⟩⟩⟩
    have nE := Ex.new (T := T) (o := .lst [.ref t]) np
    have E4 : Ex T H2 (upd (upd H3 t (.tup [])) p (.lst [.ref t])) := e3.trans ((Ex.new nt).trans nE)
    have L0 : LL (IT K) (allL 0) (.ref p) (upd (upd H3 t (.tup [])) p (.lst [.ref t])) := ⟨p, _, rfl, upd_same, .cons ⟨t, rfl, .of (nE.tup upd_same)⟩ .nil⟩
    refine ⟨_, rfl, (ws.length : Int), rfl, by omega, by omega, for_range (lo := 0) (n := (ws.length : Int).toNat) (fun i σ H' => ∃ x4 x5 x6, σ = [some (.ref a), some (.ref ra), some vy, some (.int (ws.length : Int)), some x4, x5, x6, none, none, none, none, none, none, none, none, none, none] ∧ Ex T H2 H' ∧ LL (IT K) (allL i) x4 H') ⟨_, _, _, rfl, E4, L0⟩ ?_ ?_⟩
    · rintro i σ H5 hi ⟨x4, x5, x6, rfl, e5, hl⟩
      have il : i < ws.length := by omega
      have hlen := allL_len i
      have hpow : 2 ^ i ≤ 2 ^ 12 := Nat.pow_le_pow_right (by omega) (by omega)
      have h4096 : (2 : Nat) ^ 12 = 4096 := rfl
      have lc := ev_lcL (β := Unit) (T := T) (K := K) (σ := [some (.ref a), some (.ref ra), some vy, some (.int (ws.length : Int)), some x4, some (.int (0 + (i : Int))), x6, none, none, none, none, none, none, none, none, none, none]) (H := H5) (j := 6) (vs := [6]) (te := tOp (rCatA K) (tVar 6) (tTup (tCons (tVar 5) tNil))) (tt := tYes) (tl := tVar 4) (Ps := IT K) (Pe := fun d => IT K (d ++ [(i : Int)])) (ds := allL i) (fun _ => true) (ev_varL (i := 4) sI rfl hl) (fun _ => IT.stb) (by omega) (fun x => rfl) (fun _ _ _ _ _ _ => et_yes)
        (fun d x H6 hd e6 hx _ => by
          have hdl := lot_len (mem_allL.mp hd)
          have z : (0 : Int) + (i : Int) = (i : Int) := Int.zero_add _
          exact (ev_catI (ev_varP IT.stb rfl hx) (ev_tupI (ns := [0 + (i : Int)]) (ea_consV (ev_var (i := 5) rfl) ea_nil) (by show 1 ≤ 40000; omega)) (by show d.length + 1 ≤ 40000; omega)).imp fun v H _ h => by rw [z] at h; exact h)
      rw [filt_true] at lc
      refine (ev_cat sI (ev_varL (T := T) (i := 4) sI rfl hl) (lc.imp fun v H _ h => h.map) (by rw [List.length_map]; omega)).go fun y H6 e6 hy6 => ?_
      exact ⟨_, _, _, rfl, e5.trans e6, hy6⟩
    · rintro σ H5 ⟨x4, x5, x6, rfl, e5, hl⟩
      rw [Int.toNat_natCast] at hl
      have hlen := allL_len ws.length
      have hpow : 2 ^ ws.length ≤ 2 ^ 12 := Nat.pow_le_pow_right (by omega) (by omega)
      have h4096 : (2 : Nat) ^ 12 = 4096 := rfl
      -- told
      refine q_asg (T := T) (ev_sds (K := K) (te := tVar 0) (ev_yard1 (y0 rfl e5) ev_c) (by omega) (fun _ => rfl) (fun _ => rfl)) fun v7 H6 e6 ht => ?_
      have e26 := e5.trans e6
      -- sides_of_yard, with_sides
      have hself : resides ws (ws.map (·.sd)) = ws := resides_self ws
      refine q_no (T := T) (et_is (et_or (a := false) (b := false) (et_test (ev_neSame (d := dI (ws.map (·.sd))) (n := 1) ((ev_sides_of_yard (K := K) (y0 rfl e26) ho).imp fun v H _ h => dp_IT h) ((ev_varP (i := 7) IT.stb rfl ht).imp fun v H _ h => dp_IT h) nice_dI (by omega))) fun _ =>
        et_test (ev_neSame (d := dY many ws) (n := 3) ((ev_with_sides (K := K) (y0 rfl e26) (ev_varP (i := 7) IT.stb rfl ht) ho (by rw [List.length_map]) (sdok ho)).imp fun v H _ h => by rw [hself] at h; exact dp_YT h) ((y0 rfl e26).imp fun v H _ h => dp_YT h) nice_dY (by omega))) rfl) fun H7 e7 => ?_
      have e27 := e26.trans e7
      have hl7 := hl.ex sI (e6.trans e7)
      have ht7 := IT.stb.ex ht e7
      -- good
      refine ⟨Nat.zero_le _, fun gp ngp => ?_⟩
      have A0 : Atl T (GV K) H7 gp (gsOf ws ((allL ws.length).take 0)) (upd H7 gp (.lst [])) := ⟨Ex.new ngp, ngp, [], upd_same, .nil⟩
      obtain ⟨lp, ls, rfl, hls, hlp⟩ := hl7
      have hll := Paired.length hlp
      have sG : ∀ g, Stb (GV K g) := GV.stb
      refine ⟨_, rfl, lp, rfl, ⟨_, .of (A0.1.lst hls)⟩, for_list (xs := ls) (fun i σ H' => ∃ x6 x10, σ = [some (.ref a), some (.ref ra), some vy, some (.int (ws.length : Int)), some (.ref lp), x5, x6, some v7, none, some (.ref gp), x10, none, none, none, none, none, none] ∧ Atl T (GV K) H7 gp (gsOf ws ((allL ws.length).take i)) H')
        ⟨_, _, rfl, A0⟩ (fun i σ H' _ ⟨_, _, _, h⟩ => .of (h.1.lst hls)) ?_ ?_⟩
      · rintro i x σ H8 hi ⟨x6, x10, rfl, A8⟩
        obtain ⟨lot, hlot, hx⟩ := paired_get hlp hi
        have hx8 := IT.stb.ex hx A8.1
        have ht8 := IT.stb.ex ht7 A8.1
        have isl := mem_allL.mp (List.mem_of_getElem? hlot)
        have hgs := gs_succ (ws := ws) hlot
        refine q_asg (T := T) (ev_sdsLaw (K := K) (i6 := 6) (i7 := 7) (i3 := 3) h12 rfl hx8 ht8 (fun _ => rfl) (fun _ => rfl) (fun _ => rfl) (fun _ => rfl)) fun v10 H9 e9 hv10 => ?_
        have A9 := A8.ex sG e9
        have hx9 := IT.stb.ex hx8 e9
        refine s_if (T := T) (et_B (ev_law_leaves (K := K) (ws := turn lot ws) ((ev_law_chosen (y0 rfl (e27.trans A9.1)) (ev_varP (i := 10) IT.stb rfl hv10) sds_turn h12).imp fun v H _ h => by rw [resides_turn] at h; exact h) (turn_yok ho))) (fun hb H10 e10 => ?_) (fun hb H10 e10 => ?_)
        · rw [if_pos hb] at hgs
          have A10 := A9.ex sG e10
          have hx10 := IT.stb.ex hx9 e10
          have h1 := gs_len (ws := ws) (l := (allL ws.length).take i)
          rw [List.length_take] at h1
          refine s_appL (α := Int × List Int) (d := ((lot.length : Int), lot)) sG A10 rfl (by omega) (ev_GV (ev_lenT (K := K) (P := eqI) ((ev_varP (i := 6) IT.stb rfl hx10).imp fun v H _ h => h.tt)) (ev_varP (i := 6) IT.stb rfl hx10)) fun H11 A11 _ => ?_
          exact ⟨_, _, rfl, by rw [hgs]; exact A11⟩
        · rw [if_neg (by rw [hb]; decide)] at hgs
          exact ⟨_, _, rfl, by rw [hgs]; exact A9.ex sG e10⟩
      · rintro σ H8 ⟨x6, x10, rfl, A8⟩
        rw [hll, List.take_length] at A8
        have hgl := gs_len (ws := ws) (l := allL ws.length)
        -- best
        refine q_asg (T := T) (P := fun v _ => ∃ o, v = optV o ∧ Fewest ws o ∧ (o = none → gsOf ws (allL ws.length) = [])) (ev_if (et_test (ev_neNil (K := K) (n := 2) (g := dG) (Pd := GV K) (fun _ _ _ h => dp_GV h) (fun _ => nice_dG) (ev_varL (i := 9) sG rfl A8.ll) (by omega))) (fun hb => ?_) (fun hb => ?_)) fun v12 H9 e9 ⟨o, hv12, hf, hnone⟩ => ?_
        · have hne : gsOf ws (allL ws.length) ≠ [] := by simpa using hb
          refine ev_op (ev_minG (K := K) (ev_varL (i := 9) sG rfl A8.ll) hne) (fun v H H' ⟨g, h1, h2, h3⟩ k => ⟨g, h1, h2, GV.stb g v H H' h3 k⟩) ev_c fun x y H1 _ ⟨g, h1, h2, t, b, hx, hs, _⟩ hy Q q => ?_
          exact ⟨t, _, 0, .int g.1, hx, hy, hs, atI_nat (j := 0) rfl, q _ _ (Ex.refl _) ⟨some g.1, rfl, gs_fewest h1 h2, fun h => by cases h⟩⟩
        · have hne : gsOf ws (allL ws.length) = [] := by simpa using hb
          exact ev_c.imp fun v _ _ hv => ⟨none, hv, gs_none hne, fun _ => hne⟩
        subst hv12
        have A9 := A8.ex sG e9
        have e29 := e27.trans A9.1
        have hT9 := (E2.trans e29).tabs hT
        -- fewest_changes
        refine q_no (T := T) (et_is (et_not (et_B (ev_alike (K := K) (n := 3) (m := 0) (ev_costs_to hT9 (y0 rfl e29) ho) (fun _ _ _ _ h => h) (ev_var (i := 12) rfl) (by decide) fun v v' H1 _ ⟨o', hv, hf'⟩ hv' => by
          have := fewest_uniq hf hf'
          subst this hv hv'
          cases o with
          | none => exact .inr ⟨rfl, rfl⟩
          | some m => exact .inl ⟨m, rfl, rfl⟩))) rfl) fun H10 e10 => ?_
        have A10 := A9.ex sG e10
        have e210 := e27.trans A10.1
        have hT10 := (E2.trans e210).tabs hT
        have hbest := best_sorted hnone
        -- change_lots
        refine q_no (T := T) (et_is (et_not (et_B (ev_alike (K := K) (n := 3) (m := 2) (Pb := LL (IT K) (chL ws o)) (ev_change_lots hT10 (y0 rfl e210) ho) (fun _ _ _ e ⟨o', h, h'⟩ => ⟨o', h, h'.ex sI e⟩) ((ev_sortL (K := K) (ds := ((gsOf ws (allL ws.length)).filter (bestB o)).map (·.2)) ((ev_lcG (α := Unit) (K := K) (Pe := fun g => IT K g.2) (bestB o) (ev_varL (i := 9) sG rfl A10.ll) (fun _ => IT.stb) (by omega) (fun x y => rfl) (fun g y H1 hg e1 hy => ?_) (fun g y H1 hg e1 hy _ => ?_)).imp fun v H _ h => h.map) ?_ hbest.2).imp fun v H _ h => by rw [hbest.1] at h; exact h) (by decide) fun v v' H1 _ ⟨o', hf', hv⟩ hv' => ?_))) rfl) fun H11 e11 => ?_
        · cases o with
          | none => rw [hnone rfl] at hg; cases hg
          | some m => exact et_is (et_test (ev_eqS (x := .int g.1) (y := .int m) rfl (ev_var (i := 13) rfl) (ev_var (i := 12) rfl))) (by simp [bestB])
        · exact ev_varP (i := 6) IT.stb rfl hy
        · rw [List.length_map]
          have := List.length_filter_le (bestB o) (gsOf ws (allL ws.length))
          omega
        · have := fewest_uniq hf hf'
          subst this
          exact same_LL hv hv' (by have := chL_len (o := o) h12; omega) (chL_short h12)
        have A11 := A10.ex sG e11
        have e211 := e27.trans A11.1
        have R11 := R2.ex e211
        have E11 := E2.trans e211
        -- some walls drawn
        refine q_asgR (T := T) (K := K) (a := ra) (sl := a) (sn := sn) (er_law_some R11 (ea_consV (ev_var (i := 1) rfl) (ea_consV (ev_var (i := 3) rfl) ea_nil)) h12) fun v6 H12 e12 R12 ⟨lot, hlot, isl, l12⟩ => ?_
        have tk12 := hid_tkR R11 e12
        have E12 := hid_stepB R11 E11 nra e12
        have hy12 : YT K many ws vy H12 := YT.stb _ _ _ (YT.stb.ex hy e211) tk12
        have ht12 : IT K (ws.map (·.sd)) v7 H12 := IT.stb _ _ _ (IT.stb.ex ht7 A11.1) tk12
        have y12 : ∀ {σ H'}, σ[2]? = some (some vy) → Ex T H12 H' → Ev T (tVar 2) σ H' (YT K many ws) := fun h e => ev_varP YT.stb h (YT.stb.ex hy12 e)
        refine q_asg (T := T) (ev_sdsLaw (K := K) (i6 := 6) (i7 := 7) (i3 := 3) h12 rfl hlot ht12 (fun _ => rfl) (fun _ => rfl) (fun _ => rfl) (fun _ => rfl)) fun v10 H13 e13 hv10 => ?_
        have hlot13 := IT.stb.ex hlot e13
        have lot13 : ∀ {σ H'}, σ[6]? = some (some v6) → Ex T H13 H' → Ev T (tVar 6) σ H' (IT K lot) := fun h e => ev_varP IT.stb h (IT.stb.ex hlot13 e)
        have hback : turn lot (turn lot ws) = ws := turn_back ho.wo
        -- turned
        refine q_no (T := T) (et_is (et_or (a := false) (b := false) (et_test (ev_neSame (d := dY many (turn lot ws)) (n := 3) ((ev_turned (K := K) (y12 rfl e13) (lot13 rfl (Ex.refl _)) ho isl l12).imp fun v H _ h => dp_YT h) ((ev_with_sides (K := K) (y12 rfl e13) (ev_varP (i := 10) IT.stb rfl hv10) ho sds_turn (sdok (turn_yok ho))).imp fun v H _ h => by rw [resides_turn] at h; exact dp_YT h) nice_dY (by omega))) fun _ =>
          et_test (ev_neSame (d := dY many ws) (n := 3) ((ev_turned (K := K) (ev_turned (K := K) (y12 rfl e13) (lot13 rfl (Ex.refl _)) ho isl l12) (lot13 rfl (Ex.refl _)) (turn_yok ho) (by rw [turn_len]; exact isl) l12).imp fun v H _ h => by rw [hback] at h; exact dp_YT h) ((y12 rfl e13).imp fun v H _ h => dp_YT h) nice_dY (by omega))) rfl) fun H14 e14 => ?_
        have R14 := R12.ex (e13.trans e14)
        have E14 := E12.trans (e13.trans e14)
        -- the big yard
        refine q_asgR (T := T) (K := K) (a := ra) (sl := a) (sn := sn) (er_law_yard R14 (ea_consV (ev_var (i := 1) rfl) (ea_consV ev_c (ea_consV ev_c (ea_consV ev_c ea_nil)))) (by decide) (by decide) (by decide) (by decide)) fun vb H15 e15 R15 ⟨many2, ws2, hb, ho2, _⟩ => ?_
        have E15 := hid_stepB R14 E14 nra e15
        have b15 : ∀ {σ H'}, σ[14]? = some (some vb) → Ex T H15 H' → Ev T (tVar 14) σ H' (YT K many2 ws2) := fun h e => ev_varP YT.stb h (YT.stb.ex hb e)
        refine q_asg (T := T) (ev_costs_to (K := K) (E15.tabs hT) (b15 rfl (Ex.refl _)) ho2) fun vf H16 e16 ⟨o2, hvf, hf2⟩ => ?_
        subst hvf
        refine q_if (T := T) (b := decide (optV o2 = V.non)) (et_test (ev_op (ev_var (i := 15) rfl) stb_eq ev_c fun x y H1 _ hx hy Q q => ⟨hy, q _ _ (Ex.refl _) (by rw [hx])⟩)) (fun hbn H17 e17 => ?_) (fun hbn H17 e17 => ?_)
        · cases o2 with
          | some c => simp [optV] at hbn
          | none =>
            have e157 := e16.trans e17
            refine s_ret (T := T) (ev_andV (a := true) (b := true) ?_ fun _ => ?_) fun v H18 e18 hv => by
              rw [hv]
              exact q _
            · refine ev_op (ev_has_order (K := K) (b15 rfl e157) ho2) stb_eq (ev_c (v := .bl false)) fun x y H1 _ hx hy Q q => ⟨_, _, hx, hy, q _ _ (Ex.refl _) ?_⟩
              rw [tv_false (fewest_none hf2)]
              rfl
            · refine ((ev_eqNilE (K := K) (ev_change_lots (K := K) ((E15.trans e157).tabs hT) (b15 rfl e157) ho2) fun o' hf' => ?_)).imp fun v _ _ h => h
              have := fewest_uniq hf2 hf'
              subst this
              rfl
        · cases o2 with
          | none => simp [optV] at hbn
          | some m =>
            have e157 := e16.trans e17
            -- the lots that do
            refine q_asg (T := T) (ev_change_lots (K := K) ((E15.trans e157).tabs hT) (b15 rfl e157) ho2) fun vs16 H18 e18 ⟨o', hf', hs16⟩ => ?_
            have := fewest_uniq hf2 hf'
            subst this
            have e158 := e157.trans e18
            have hne := chL_ne hf2
            obtain ⟨l0, hl0⟩ : ∃ l0, (chL ws2 (some m))[0]? = some l0 := ⟨_, List.getElem?_eq_getElem (List.length_pos_iff.mpr hne)⟩
            obtain ⟨isl0, hg0, hm0⟩ := mem_chL (List.mem_of_getElem? hl0)
            have l012 := lot_len isl0
            have h122 := ho2.wl
            have first : ∀ {H19}, Ex T H18 H19 → Ev T (tOp (rIxL K) (tVar 16) (tC (.int 0))) _ H19 (IT K l0) := fun {H19} e => ev_ixL (K := K) (i := 0) sI (ev_varL (i := 16) (σ := [some (.ref a), some (.ref ra), some vy, some (.int (ws.length : Int)), some (.ref lp), x5, some v6, some v7, none, some (.ref gp), some v10, none, some (optV o), none, some vb, some (optV (some m)), some vs16]) sI rfl (hs16.ex sI e)) ev_c hl0
            refine q_no (T := T) (et_is (et_not (a := true) (et_and (a := true) (b := true) ?_ fun _ => et_and (a := true) (b := true) ?_ fun _ => ?_)) rfl) fun H19 e19 => ?_
            · refine et_is (et_test (ev_eqS (x := .bl (decide (V.int m = V.int 0))) (y := .bl (tv (Good ws2))) rfl (ev_eqS (x := .int m) (y := .int 0) rfl (ev_var (i := 15) rfl) ev_c) (ev_has_order (K := K) (b15 rfl e158) ho2))) ?_
              have h0 : decide (V.int m = V.int 0) = tv (Good ws2) := by
                rw [← tv_congr (fewest_zero hf2), ← tv_dec]
                exact decide_eq_decide.mpr ⟨fun h => by injection h, fun h => by rw [h]⟩
              rw [h0]
              simp
            · exact et_is (et_test (ev_neNil (K := K) (n := 1) (g := dI) (Pd := IT K) (fun _ _ _ h => dp_IT h) (fun _ => nice_dI) (ev_varL (i := 16) sI rfl hs16) (by omega))) (by simp [hne])
            · exact et_is (et_B (ev_has_order (K := K) (ws := turn l0 ws2) (ev_turned (K := K) (b15 rfl e158) (first (Ex.refl _)) ho2 isl0 (by omega)) (turn_yok ho2))) (tv_true hg0)
            · refine s_ret (T := T) (P := fun v _ => v = .bl true) ((ev_eqS (x := .int (l0.length : Int)) (y := .int m) rfl (ev_lenT (K := K) (P := eqI) ((first e19).imp fun v H _ h => h.tt)) (ev_var (i := 15) rfl)).imp fun v _ _ h => by rw [h, hm0]; simp) fun v H20 e20 hv => by
                rw [hv]
                exact q _
end
end WI
set_option maxRecDepth 100000
/-! What the top has written. -/
namespace WI
open PySem PySem.Spec L2 LamX
/-- a def as the top has written it -/
def Dat (K : PySem.W.Frag) (mg : Str → Option Value) (x : Str) (st : Stmt) : Prop := ∃ f fd, Fun K x x st f fd ∧ mg x = some (.ref f)
def DatC (K : PySem.W.Frag) (mg : Str → Option Value) (x : Str) (st : Stmt) (c : Addr) : Prop := ∃ f fd, FunC K x st f c fd ∧ mg x = some (.ref f)
section
variable {K : PySem.W.Frag} {h : Heap} {mg : Str → Option Value}
theorem dat_mk {x : Str} {st : Stmt} {f : Addr} {oc : Value} {od an : Option Addr} {osl : Array (Option Value)} {kV doc pm cdv ct : Value} (X : K.In h) (G : h.Ns mainGlobals mg) (a : PySem.W.nsIn K mainGlobals x = some (some (.ref f)))
    (l : K.lookup f = some ⟨oc, od, .func (PySem.W.fnOf x x (defArgs st) (defBody st) (defScope st) .none kV doc pm an cdv ct), osl⟩) (c : PySem.W.codeIn K cdv x = true) (k : PySem.W.keepIn K (.ref f) = true) : Dat K mg x st :=
  ⟨f, _, fun_mk l c k, PySem.W.mg_of X G a⟩
theorem datC_mk {x : Str} {st : Stmt} {f cc : Addr} {oc : Value} {od an : Option Addr} {osl : Array (Option Value)} {kV doc pm ct : Value} (X : K.In h) (G : h.Ns mainGlobals mg) (a : PySem.W.nsIn K mainGlobals x = some (some (.ref f)))
    (l : K.lookup f = some ⟨oc, od, .func (PySem.W.fnOf x x (defArgs st) (defBody st) (defScope st) .none kV doc pm an (.ref cc) ct), osl⟩) (c : PySem.W.codeIn K (.ref cc) x = true) (k : PySem.W.keepIn K (.ref f) = true) : DatC K mg x st cc :=
  ⟨f, _, funC_mk l c k, PySem.W.mg_of X G a⟩
end
end WI
set_option maxRecDepth 100000
/-! From the facts of the top to the law's promise. -/
namespace WI
open PySem PySem.Spec L2 LamX
theorem with_dat {K : PySem.W.Frag} {h : Heap} {mg : Str → Option Value} {C : Prop} {x : Str} {st : Stmt} {f : Addr} {oc : Value} {od an : Option Addr} {osl : Array (Option Value)} {kV doc pm cdv ct : Value} (X : K.In h) (G : h.Ns mainGlobals mg) (a : PySem.W.nsIn K mainGlobals x = some (some (.ref f)))
    (l : K.lookup f = some ⟨oc, od, .func (PySem.W.fnOf x x (defArgs st) (defBody st) (defScope st) .none kV doc pm an cdv ct), osl⟩) (c : PySem.W.codeIn K cdv x = true) (k : PySem.W.keepIn K (.ref f) = true) (r : Dat K mg x st → C) : C := r (dat_mk X G a l c k)
theorem with_datC {K : PySem.W.Frag} {h : Heap} {mg : Str → Option Value} {C : Prop} {x : Str} {st : Stmt} {f cc : Addr} (P : Addr) {oc : Value} {od an : Option Addr} {osl : Array (Option Value)} {kV doc pm ct : Value} (X : K.In h) (G : h.Ns mainGlobals mg) (a : PySem.W.nsIn K mainGlobals x = some (some (.ref f)))
    (l : K.lookup f = some ⟨oc, od, .func (PySem.W.fnOf x x (defArgs st) (defBody st) (defScope st) .none kV doc pm an (.ref cc) ct), osl⟩) (c : PySem.W.codeIn K (.ref cc) x = true) (k : PySem.W.keepIn K (.ref f) = true) (hd : PySem.W.codeHdIn K cc P = true) (hn : K.lookup P = none)
    (r : DatC K mg x st cc → PySem.W.CodeHd h cc P → K.lookup P = none → C) : C := r (datC_mk X G a l c k) (PySem.W.codeHd_of_K X hd) hn
theorem with_bn {K : PySem.W.Frag} {h : Heap} {mg : Str → Option Value} {C : Prop} {t1 t2 : Tok} (X : K.In h) (G : h.Ns mainGlobals mg) (z_isinstance : PySem.W.nsIn K mainGlobals "isinstance" = some none) (z_len : PySem.W.nsIn K mainGlobals "len" = some none) (z_all : PySem.W.nsIn K mainGlobals "all" = some none) (z_any : PySem.W.nsIn K mainGlobals "any" = some none) (z_tuple : PySem.W.nsIn K mainGlobals "tuple" = some none) (z_range : PySem.W.nsIn K mainGlobals "range" = some none) (z_enumerate : PySem.W.nsIn K mainGlobals "enumerate" = some none) (z_zip : PySem.W.nsIn K mainGlobals "zip" = some none) (z_sorted : PySem.W.nsIn K mainGlobals "sorted" = some none) (z_min : PySem.W.nsIn K mainGlobals "min" = some none) (z_int : PySem.W.nsIn K mainGlobals "int" = some none) (z_bool : PySem.W.nsIn K mainGlobals "bool" = some none) (z_str : PySem.W.nsIn K mainGlobals "str" = some none) (z_list : PySem.W.nsIn K mainGlobals "list" = some none) (z_set : PySem.W.nsIn K mainGlobals "set" = some none)
    (m1 : PySem.W.nsIn K mainGlobals "MOST_ROOMS" = some (some (.int 9 t1))) (m2 : PySem.W.nsIn K mainGlobals "MOST_WALLS" = some (some (.int 12 t2))) (r : Bn mg → C) : C :=
  r ⟨PySem.W.mg_none_of X G z_isinstance, PySem.W.mg_none_of X G z_len, PySem.W.mg_none_of X G z_all, PySem.W.mg_none_of X G z_any, PySem.W.mg_none_of X G z_tuple, PySem.W.mg_none_of X G z_range, PySem.W.mg_none_of X G z_enumerate, PySem.W.mg_none_of X G z_zip, PySem.W.mg_none_of X G z_sorted, PySem.W.mg_none_of X G z_min, PySem.W.mg_none_of X G z_int, PySem.W.mg_none_of X G z_bool, PySem.W.mg_none_of X G z_str, PySem.W.mg_none_of X G z_list, PySem.W.mg_none_of X G z_set, ⟨_, PySem.W.mg_of X G m1⟩, ⟨_, PySem.W.mg_of X G m2⟩⟩
theorem all_of {l : PySem.W.OpenLaw} {w : World} {K : PySem.W.Frag} {h : Heap} {mg : Str → Option Value} {fa c1 c2 P1 P2 : Addr} (hfa : mg "law" = some (.ref fa)) (G : Bn mg) (t1 : h.get? P1 = some { cls := .none, data := .fields #[] }) (t2 : h.get? P2 = some { cls := .none, data := .fields #[] })
    (n1 : K.lookup P1 = none) (n2 : K.lookup P2 = none) (h1 : PySem.W.CodeHd h c1 P1) (h2 : PySem.W.CodeHd h c2 P2) (ne : P1 ≠ P2) (d_is_int : Dat K mg "is_int" s_is_int) (d_is_from : Dat K mg "is_from" s_is_from) (d_is_wall : Dat K mg "is_wall" s_is_wall) (d_need_yard : Dat K mg "need_yard" s_need_yard) (d_sides_of : Dat K mg "sides_of" s_sides_of) (d_every : Dat K mg "every" s_every) (d_need_lot : Dat K mg "need_lot" s_need_lot) (d_reached : Dat K mg "reached" s_reached) (d_has_order : Dat K mg "has_order" s_has_order) (d_is_growth : Dat K mg "is_growth" s_is_growth) (d_need_sides : Dat K mg "need_sides" s_need_sides) (d_chosen : Dat K mg "chosen" s_chosen) (d_with_sides : Dat K mg "with_sides" s_with_sides) (d_sides_of_yard : Dat K mg "sides_of_yard" s_sides_of_yard) (d_turned_of : Dat K mg "turned_of" s_turned_of) (d_turned : Dat K mg "turned" s_turned) (d_busy : Dat K mg "busy" s_busy) (d_ring_of : Dat K mg "ring_of" s_ring_of) (d_least_tree : DatC K mg "least_tree" s_least_tree c2) (d_costs_to : Dat K mg "costs_to" s_costs_to) (d_fewest_changes : Dat K mg "fewest_changes" s_fewest_changes) (d_lots_of : DatC K mg "lots_of" s_lots_of c1) (d_change_lots : Dat K mg "change_lots" s_change_lots) (d_law_taken : Dat K mg "_law_taken" s_law_taken) (d_law_yard : Dat K mg "_law_yard" s_law_yard) (d_law_sides : Dat K mg "_law_sides" s_law_sides) (d_law_come : Dat K mg "_law_come" s_law_come) (d_law_heart : Dat K mg "_law_heart" s_law_heart) (d_law_leaves : Dat K mg "_law_leaves" s_law_leaves) (d_law_chosen : Dat K mg "_law_chosen" s_law_chosen) (d_law_some : Dat K mg "_law_some" s_law_some) (d_law_alike : Dat K mg "_law_alike" s_law_alike) (d_law : Dat K mg "law" s_law) : LawAtS l w K CX0 30 63 "_law_script" mg fa h := by
  obtain ⟨f_is_int, fd_is_int, F_is_int, m_is_int⟩ := d_is_int
  obtain ⟨f_is_from, fd_is_from, F_is_from, m_is_from⟩ := d_is_from
  obtain ⟨f_is_wall, fd_is_wall, F_is_wall, m_is_wall⟩ := d_is_wall
  obtain ⟨f_need_yard, fd_need_yard, F_need_yard, m_need_yard⟩ := d_need_yard
  obtain ⟨f_sides_of, fd_sides_of, F_sides_of, m_sides_of⟩ := d_sides_of
  obtain ⟨f_every, fd_every, F_every, m_every⟩ := d_every
  obtain ⟨f_need_lot, fd_need_lot, F_need_lot, m_need_lot⟩ := d_need_lot
  obtain ⟨f_reached, fd_reached, F_reached, m_reached⟩ := d_reached
  obtain ⟨f_has_order, fd_has_order, F_has_order, m_has_order⟩ := d_has_order
  obtain ⟨f_is_growth, fd_is_growth, F_is_growth, m_is_growth⟩ := d_is_growth
  obtain ⟨f_need_sides, fd_need_sides, F_need_sides, m_need_sides⟩ := d_need_sides
  obtain ⟨f_chosen, fd_chosen, F_chosen, m_chosen⟩ := d_chosen
  obtain ⟨f_with_sides, fd_with_sides, F_with_sides, m_with_sides⟩ := d_with_sides
  obtain ⟨f_sides_of_yard, fd_sides_of_yard, F_sides_of_yard, m_sides_of_yard⟩ := d_sides_of_yard
  obtain ⟨f_turned_of, fd_turned_of, F_turned_of, m_turned_of⟩ := d_turned_of
  obtain ⟨f_turned, fd_turned, F_turned, m_turned⟩ := d_turned
  obtain ⟨f_busy, fd_busy, F_busy, m_busy⟩ := d_busy
  obtain ⟨f_ring_of, fd_ring_of, F_ring_of, m_ring_of⟩ := d_ring_of
  obtain ⟨f_least_tree, fd_least_tree, F_least_tree, m_least_tree⟩ := d_least_tree
  obtain ⟨f_costs_to, fd_costs_to, F_costs_to, m_costs_to⟩ := d_costs_to
  obtain ⟨f_fewest_changes, fd_fewest_changes, F_fewest_changes, m_fewest_changes⟩ := d_fewest_changes
  obtain ⟨f_lots_of, fd_lots_of, F_lots_of, m_lots_of⟩ := d_lots_of
  obtain ⟨f_change_lots, fd_change_lots, F_change_lots, m_change_lots⟩ := d_change_lots
  obtain ⟨f_law_taken, fd_law_taken, F_law_taken, m_law_taken⟩ := d_law_taken
  obtain ⟨f_law_yard, fd_law_yard, F_law_yard, m_law_yard⟩ := d_law_yard
  obtain ⟨f_law_sides, fd_law_sides, F_law_sides, m_law_sides⟩ := d_law_sides
  obtain ⟨f_law_come, fd_law_come, F_law_come, m_law_come⟩ := d_law_come
  obtain ⟨f_law_heart, fd_law_heart, F_law_heart, m_law_heart⟩ := d_law_heart
  obtain ⟨f_law_leaves, fd_law_leaves, F_law_leaves, m_law_leaves⟩ := d_law_leaves
  obtain ⟨f_law_chosen, fd_law_chosen, F_law_chosen, m_law_chosen⟩ := d_law_chosen
  obtain ⟨f_law_some, fd_law_some, F_law_some, m_law_some⟩ := d_law_some
  obtain ⟨f_law_alike, fd_law_alike, F_law_alike, m_law_alike⟩ := d_law_alike
  obtain ⟨f_law, fd_law, F_law, m_law⟩ := d_law
  cases hfa.symm.trans m_law
  have b_is_int := Fun.binds (ps := ["value"]) (F_is_int) fun _ _ _ _ _ _ us hl => match us, hl with | [_], _ => rfl
  have b_is_from := Fun.binds (ps := ["value", "least", "most"]) (F_is_from) fun _ _ _ _ _ _ us hl => match us, hl with | [_, _, _], _ => rfl
  have b_is_wall := Fun.binds (ps := ["value", "many"]) (F_is_wall) fun _ _ _ _ _ _ us hl => match us, hl with | [_, _], _ => rfl
  have b_need_yard := Fun.binds (ps := ["value"]) (F_need_yard) fun _ _ _ _ _ _ us hl => match us, hl with | [_], _ => rfl
  have b_sides_of := Fun.binds (ps := ["wall"]) (F_sides_of) fun _ _ _ _ _ _ us hl => match us, hl with | [_], _ => rfl
  have b_every := Fun.binds (ps := ["yard"]) (F_every) fun _ _ _ _ _ _ us hl => match us, hl with | [_], _ => rfl
  have b_need_lot := Fun.binds (ps := ["yard", "value"]) (F_need_lot) fun _ _ _ _ _ _ us hl => match us, hl with | [_, _], _ => rfl
  have b_reached := Fun.binds (ps := ["yard", "lot"]) (F_reached) fun _ _ _ _ _ _ us hl => match us, hl with | [_, _], _ => rfl
  have b_has_order := Fun.binds (ps := ["yard"]) (F_has_order) fun _ _ _ _ _ _ us hl => match us, hl with | [_], _ => rfl
  have b_is_growth := Fun.binds (ps := ["yard", "lot"]) (F_is_growth) fun _ _ _ _ _ _ us hl => match us, hl with | [_, _], _ => rfl
  have b_need_sides := Fun.binds (ps := ["yard", "value"]) (F_need_sides) fun _ _ _ _ _ _ us hl => match us, hl with | [_, _], _ => rfl
  have b_chosen := Fun.binds (ps := ["yard", "sides"]) (F_chosen) fun _ _ _ _ _ _ us hl => match us, hl with | [_, _], _ => rfl
  have b_with_sides := Fun.binds (ps := ["yard", "sides"]) (F_with_sides) fun _ _ _ _ _ _ us hl => match us, hl with | [_, _], _ => rfl
  have b_sides_of_yard := Fun.binds (ps := ["yard"]) (F_sides_of_yard) fun _ _ _ _ _ _ us hl => match us, hl with | [_], _ => rfl
  have b_turned_of := Fun.binds (ps := ["yard", "lot"]) (F_turned_of) fun _ _ _ _ _ _ us hl => match us, hl with | [_, _], _ => rfl
  have b_turned := Fun.binds (ps := ["yard", "lot"]) (F_turned) fun _ _ _ _ _ _ us hl => match us, hl with | [_, _], _ => rfl
  have b_busy := Fun.binds (ps := ["yard"]) (F_busy) fun _ _ _ _ _ _ us hl => match us, hl with | [_], _ => rfl
  have b_ring_of := Fun.binds (ps := ["into", "root"]) (F_ring_of) fun _ _ _ _ _ _ us hl => match us, hl with | [_, _], _ => rfl
  have b_least_tree := Fun.binds (ps := ["rooms", "arcs", "root"]) (F_least_tree.to) fun _ _ _ _ _ _ us hl => match us, hl with | [_, _, _], _ => rfl
  have b_costs_to := Fun.binds (ps := ["yard"]) (F_costs_to) fun _ _ _ _ _ _ us hl => match us, hl with | [_], _ => rfl
  have b_fewest_changes := Fun.binds (ps := ["yard"]) (F_fewest_changes) fun _ _ _ _ _ _ us hl => match us, hl with | [_], _ => rfl
  have b_lots_of := Fun.binds (ps := ["yard"]) (F_lots_of.to) fun _ _ _ _ _ _ us hl => match us, hl with | [_], _ => rfl
  have b_change_lots := Fun.binds (ps := ["yard"]) (F_change_lots) fun _ _ _ _ _ _ us hl => match us, hl with | [_], _ => rfl
  have b_law_taken := Fun.binds (ps := ["_law_row", "_law_many"]) (F_law_taken) fun _ _ _ _ _ _ us hl => match us, hl with | [_, _], _ => rfl
  have b_law_yard := Fun.binds (ps := ["_law_row", "_law_rooms", "_law_shuts", "_law_either"]) (F_law_yard) fun _ _ _ _ _ _ us hl => match us, hl with | [_, _, _, _], _ => rfl
  have b_law_sides := Fun.binds (ps := ["_law_shut"]) (F_law_sides) fun _ _ _ _ _ _ us hl => match us, hl with | [_], _ => rfl
  have b_law_come := Fun.binds (ps := ["_law_yard_here", "_law_lot"]) (F_law_come) fun _ _ _ _ _ _ us hl => match us, hl with | [_, _], _ => rfl
  have b_law_heart := Fun.binds (ps := ["_law_yard_here", "_law_lot"]) (F_law_heart) fun _ _ _ _ _ _ us hl => match us, hl with | [_, _], _ => rfl
  have b_law_leaves := Fun.binds (ps := ["_law_yard_here"]) (F_law_leaves) fun _ _ _ _ _ _ us hl => match us, hl with | [_], _ => rfl
  have b_law_chosen := Fun.binds (ps := ["_law_yard_here", "_law_sides_here"]) (F_law_chosen) fun _ _ _ _ _ _ us hl => match us, hl with | [_, _], _ => rfl
  have b_law_some := Fun.binds (ps := ["_law_row", "_law_many"]) (F_law_some) fun _ _ _ _ _ _ us hl => match us, hl with | [_, _], _ => rfl
  have b_law_alike := Fun.binds (ps := ["_law_found", "_law_due"]) (F_law_alike) fun _ _ _ _ _ _ us hl => match us, hl with | [_, _], _ => rfl
  have b_law := Fun.binds (ps := ["_law_script"]) (F_law) fun _ _ _ _ _ _ us hl => match us, hl with | [_], _ => rfl
  have e1 : ∀ p ∈ [(c1, P1), (c2, P2)], p = (c1, P1) ∨ p = (c2, P2) := fun p hp => by simpa using hp
  refine ⟨fd_law, [(c1, P1), (c2, P2)], sp_law [(P1, lamQ "lots_of"), (P2, lamQ "least_tree")] K, fun p hp => ?_, fun p hp => ?_, fun p hp => ?_, fun s u => ?_, fun H a ns _ _ ht hs => ?_, fun base KB GB TB => ?_⟩
  · rcases e1 p hp with rfl | rfl
    · exact t1
    · exact t2
  · rcases e1 p hp with rfl | rfl
    · exact n1
    · exact n2
  · rcases e1 p hp with rfl | rfl
    · exact h1
    · exact h2
  · obtain ⟨oc, od, kV, doc, pm, an, cdv, ct, osl, rfl, lk, hcd⟩ := F_law.ex
    exact .of_eq rfl
  · refine ⟨a, ns, rfl, fun p hp => ?_, hs, fun _ => rfl⟩
    have : p = (P1, lamQ "lots_of") ∨ p = (P2, lamQ "least_tree") := by simpa using hp
    rcases this with rfl | rfl
    · exact TabS.nil (ht (c1, P1) (by simp))
    · exact TabS.nil (ht (c2, P2) (by simp))
  · have B1 : Tb [(P1, lamQ "lots_of"), (P2, lamQ "least_tree")] base mg "lots_of" c1 P1 := ⟨TB (c1, P1) (by simp), by simp, fun p hp e => by
      have : p = (P1, lamQ "lots_of") ∨ p = (P2, lamQ "least_tree") := by simpa using hp
      rcases this with rfl | rfl
      · rfl
      · exact absurd e.symm ne⟩
    have B2 : Tb [(P1, lamQ "lots_of"), (P2, lamQ "least_tree")] base mg "least_tree" c2 P2 := ⟨TB (c2, P2) (by simp), by simp, fun p hp e => by
      have : p = (P1, lamQ "lots_of") ∨ p = (P2, lamQ "least_tree") := by simpa using hp
      rcases this with rfl | rfl
      · exact absurd e ne
      · rfl⟩
    have D_is_int := dfn_mk (P := l.prog) (w := w) (base := base) F_is_int (ok_is_int (T := [(P1, lamQ "lots_of"), (P2, lamQ "least_tree")]) F_is_int G) m_is_int b_is_int
    have D_is_from := dfn_mk (P := l.prog) (w := w) (base := base) F_is_from (ok_is_from (T := [(P1, lamQ "lots_of"), (P2, lamQ "least_tree")]) F_is_from G D_is_int) m_is_from b_is_from
    have D_is_wall := dfn_mk (P := l.prog) (w := w) (base := base) F_is_wall (ok_is_wall (T := [(P1, lamQ "lots_of"), (P2, lamQ "least_tree")]) F_is_wall G D_is_from) m_is_wall b_is_wall
    have D_need_yard := dfn_mk (P := l.prog) (w := w) (base := base) F_need_yard (ok_need_yard (T := [(P1, lamQ "lots_of"), (P2, lamQ "least_tree")]) F_need_yard G D_is_from D_is_wall) m_need_yard b_need_yard
    have D_sides_of := dfn_mk (P := l.prog) (w := w) (base := base) F_sides_of (ok_sides_of (T := [(P1, lamQ "lots_of"), (P2, lamQ "least_tree")]) F_sides_of) m_sides_of b_sides_of
    have D_every := dfn_mk (P := l.prog) (w := w) (base := base) F_every (ok_every (T := [(P1, lamQ "lots_of"), (P2, lamQ "least_tree")]) F_every G) m_every b_every
    have D_need_lot := dfn_mk (P := l.prog) (w := w) (base := base) F_need_lot (ok_need_lot (T := [(P1, lamQ "lots_of"), (P2, lamQ "least_tree")]) F_need_lot G D_is_from) m_need_lot b_need_lot
    have D_reached := dfn_mk (P := l.prog) (w := w) (base := base) F_reached (ok_reached (T := [(P1, lamQ "lots_of"), (P2, lamQ "least_tree")]) F_reached G D_sides_of) m_reached b_reached
    have D_has_order := dfn_mk (P := l.prog) (w := w) (base := base) F_has_order (ok_has_order (T := [(P1, lamQ "lots_of"), (P2, lamQ "least_tree")]) F_has_order G D_need_yard D_every D_sides_of D_reached) m_has_order b_has_order
    have D_is_growth := dfn_mk (P := l.prog) (w := w) (base := base) F_is_growth (ok_is_growth (T := [(P1, lamQ "lots_of"), (P2, lamQ "least_tree")]) F_is_growth G D_sides_of D_reached) m_is_growth b_is_growth
    have D_need_sides := dfn_mk (P := l.prog) (w := w) (base := base) F_need_sides (ok_need_sides (T := [(P1, lamQ "lots_of"), (P2, lamQ "least_tree")]) F_need_sides G D_is_int) m_need_sides b_need_sides
    have D_chosen := dfn_mk (P := l.prog) (w := w) (base := base) F_chosen (ok_chosen (T := [(P1, lamQ "lots_of"), (P2, lamQ "least_tree")]) F_chosen G) m_chosen b_chosen
    have D_with_sides := dfn_mk (P := l.prog) (w := w) (base := base) F_with_sides (ok_with_sides (T := [(P1, lamQ "lots_of"), (P2, lamQ "least_tree")]) F_with_sides D_need_yard D_need_sides D_chosen) m_with_sides b_with_sides
    have D_sides_of_yard := dfn_mk (P := l.prog) (w := w) (base := base) F_sides_of_yard (ok_sides_of_yard (T := [(P1, lamQ "lots_of"), (P2, lamQ "least_tree")]) F_sides_of_yard G D_need_yard) m_sides_of_yard b_sides_of_yard
    have D_turned_of := dfn_mk (P := l.prog) (w := w) (base := base) F_turned_of (ok_turned_of (T := [(P1, lamQ "lots_of"), (P2, lamQ "least_tree")]) F_turned_of G D_chosen) m_turned_of b_turned_of
    have D_turned := dfn_mk (P := l.prog) (w := w) (base := base) F_turned (ok_turned (T := [(P1, lamQ "lots_of"), (P2, lamQ "least_tree")]) F_turned D_need_yard D_need_lot D_turned_of) m_turned b_turned
    have D_busy := dfn_mk (P := l.prog) (w := w) (base := base) F_busy (ok_busy (T := [(P1, lamQ "lots_of"), (P2, lamQ "least_tree")]) F_busy G) m_busy b_busy
    have D_ring_of := dfn_mk (P := l.prog) (w := w) (base := base) F_ring_of (ok_ring_of (T := [(P1, lamQ "lots_of"), (P2, lamQ "least_tree")]) F_ring_of G) m_ring_of b_ring_of
    have D_least_tree := dfn_mk (P := l.prog) (w := w) (base := base) F_least_tree.to (ok_least_tree (T := [(P1, lamQ "lots_of"), (P2, lamQ "least_tree")]) F_least_tree B2 G m_least_tree b_least_tree D_ring_of 26) m_least_tree b_least_tree
    have D_costs_to := dfn_mk (P := l.prog) (w := w) (base := base) F_costs_to (ok_costs_to (T := [(P1, lamQ "lots_of"), (P2, lamQ "least_tree")]) F_costs_to G D_sides_of D_busy D_least_tree) m_costs_to b_costs_to
    have D_fewest_changes := dfn_mk (P := l.prog) (w := w) (base := base) F_fewest_changes (ok_fewest_changes (T := [(P1, lamQ "lots_of"), (P2, lamQ "least_tree")]) F_fewest_changes D_need_yard D_costs_to) m_fewest_changes b_fewest_changes
    have D_lots_of := dfn_mk (P := l.prog) (w := w) (base := base) F_lots_of.to (ok_lots_of (T := [(P1, lamQ "lots_of"), (P2, lamQ "least_tree")]) F_lots_of B1 G D_every) m_lots_of b_lots_of
    have D_change_lots := dfn_mk (P := l.prog) (w := w) (base := base) F_change_lots (ok_change_lots (T := [(P1, lamQ "lots_of"), (P2, lamQ "least_tree")]) F_change_lots G D_need_yard D_costs_to D_lots_of D_is_growth D_turned_of D_every) m_change_lots b_change_lots
    have D_law_taken := dfn_mk (P := l.prog) (w := w) (base := base) F_law_taken (ok_law_taken (T := [(P1, lamQ "lots_of"), (P2, lamQ "least_tree")]) F_law_taken G) m_law_taken b_law_taken
    have D_law_yard := dfn_mk (P := l.prog) (w := w) (base := base) F_law_yard (ok_law_yard (T := [(P1, lamQ "lots_of"), (P2, lamQ "least_tree")]) F_law_yard G D_law_taken) m_law_yard b_law_yard
    have D_law_sides := dfn_mk (P := l.prog) (w := w) (base := base) F_law_sides (ok_law_sides (T := [(P1, lamQ "lots_of"), (P2, lamQ "least_tree")]) F_law_sides) m_law_sides b_law_sides
    have D_law_come := dfn_mk (P := l.prog) (w := w) (base := base) F_law_come (ok_law_come (T := [(P1, lamQ "lots_of"), (P2, lamQ "least_tree")]) F_law_come G D_law_sides) m_law_come b_law_come
    have D_law_heart := dfn_mk (P := l.prog) (w := w) (base := base) F_law_heart (ok_law_heart (T := [(P1, lamQ "lots_of"), (P2, lamQ "least_tree")]) F_law_heart G D_law_sides D_law_come) m_law_heart b_law_heart
    have D_law_leaves := dfn_mk (P := l.prog) (w := w) (base := base) F_law_leaves (ok_law_leaves (T := [(P1, lamQ "lots_of"), (P2, lamQ "least_tree")]) F_law_leaves G D_law_heart) m_law_leaves b_law_leaves
    have D_law_chosen := dfn_mk (P := l.prog) (w := w) (base := base) F_law_chosen (ok_law_chosen (T := [(P1, lamQ "lots_of"), (P2, lamQ "least_tree")]) F_law_chosen G) m_law_chosen b_law_chosen
    have D_law_some := dfn_mk (P := l.prog) (w := w) (base := base) F_law_some (ok_law_some (T := [(P1, lamQ "lots_of"), (P2, lamQ "least_tree")]) F_law_some G D_law_taken) m_law_some b_law_some
    have D_law_alike := dfn_mk (P := l.prog) (w := w) (base := base) F_law_alike (ok_law_alike (T := [(P1, lamQ "lots_of"), (P2, lamQ "least_tree")]) F_law_alike G m_law_alike b_law_alike 3) m_law_alike b_law_alike
    exact ok_law F_law G D_law_yard D_sides_of_yard D_with_sides D_law_leaves D_law_chosen D_law_alike D_fewest_changes D_change_lots D_law_some D_turned D_has_order
end WI
open PySem PySem.W PyProof.Rows
set_option maxRecDepth 100000 in
set_option maxHeartbeats 0 in
theorem PySem.Challenge.cw_walledin_k26_whole_changes_holds : PySem.Challenge.rw_walledin_k26_whole_changes.Holds := by
  w_on; o_law; k_head; (case hw => w_witness2)
  k_fill
  refine LamX.walk_ofTs (l := PySem.Challenge.rw_walledin_k26_whole_changes) (n := 63) (k := 30) (x := "_law_script") (CX := fun _ => L2.CX0) rfl (by decide) rfl ⟨rfl, by decide, by decide⟩ (fun w h Y => PySem.W.km_in_of Y) ?F (fun _ _ _ _ _ h => h)
  case F =>
    intro w mg fa h Y KX G hmg
    have hT8 := PySem.W.km_tabs_of Y
    refine' WI.with_bn KX G ?z_isinstance ?z_len ?z_all ?z_any ?z_tuple ?z_range ?z_enumerate ?z_zip ?z_sorted ?z_min ?z_int ?z_bool ?z_str ?z_list ?z_set ?m1 ?m2 ?r
    case z_isinstance => k_is
    case z_len => k_is
    case z_all => k_is
    case z_any => k_is
    case z_tuple => k_is
    case z_range => k_is
    case z_enumerate => k_is
    case z_zip => k_is
    case z_sorted => k_is
    case z_min => k_is
    case z_int => k_is
    case z_bool => k_is
    case z_str => k_is
    case z_list => k_is
    case z_set => k_is
    case m1 => k_is
    case m2 => k_is
    case r =>
    intro GB
    refine' WI.with_dat (x := "is_int") (st := WI.s_is_int) KX G ?a ?l ?c ?k ?r
    case a => k_is
    case l => k_is
    case c => k_is
    case k => k_is
    case r =>
    intro d_is_int
    refine' WI.with_dat (x := "is_from") (st := WI.s_is_from) KX G ?a ?l ?c ?k ?r
    case a => k_is
    case l => k_is
    case c => k_is
    case k => k_is
    case r =>
    intro d_is_from
    refine' WI.with_dat (x := "is_wall") (st := WI.s_is_wall) KX G ?a ?l ?c ?k ?r
    case a => k_is
    case l => k_is
    case c => k_is
    case k => k_is
    case r =>
    intro d_is_wall
    refine' WI.with_dat (x := "need_yard") (st := WI.s_need_yard) KX G ?a ?l ?c ?k ?r
    case a => k_is
    case l => k_is
    case c => k_is
    case k => k_is
    case r =>
    intro d_need_yard
    refine' WI.with_dat (x := "sides_of") (st := WI.s_sides_of) KX G ?a ?l ?c ?k ?r
    case a => k_is
    case l => k_is
    case c => k_is
    case k => k_is
    case r =>
    intro d_sides_of
    refine' WI.with_dat (x := "every") (st := WI.s_every) KX G ?a ?l ?c ?k ?r
    case a => k_is
    case l => k_is
    case c => k_is
    case k => k_is
    case r =>
    intro d_every
    refine' WI.with_dat (x := "need_lot") (st := WI.s_need_lot) KX G ?a ?l ?c ?k ?r
    case a => k_is
    case l => k_is
    case c => k_is
    case k => k_is
    case r =>
    intro d_need_lot
    refine' WI.with_dat (x := "reached") (st := WI.s_reached) KX G ?a ?l ?c ?k ?r
    case a => k_is
    case l => k_is
    case c => k_is
    case k => k_is
    case r =>
    intro d_reached
    refine' WI.with_dat (x := "has_order") (st := WI.s_has_order) KX G ?a ?l ?c ?k ?r
    case a => k_is
    case l => k_is
    case c => k_is
    case k => k_is
    case r =>
    intro d_has_order
    refine' WI.with_dat (x := "is_growth") (st := WI.s_is_growth) KX G ?a ?l ?c ?k ?r
    case a => k_is
    case l => k_is
    case c => k_is
    case k => k_is
    case r =>
    intro d_is_growth
    refine' WI.with_dat (x := "need_sides") (st := WI.s_need_sides) KX G ?a ?l ?c ?k ?r
    case a => k_is
    case l => k_is
    case c => k_is
    case k => k_is
    case r =>
    intro d_need_sides
    refine' WI.with_dat (x := "chosen") (st := WI.s_chosen) KX G ?a ?l ?c ?k ?r
    case a => k_is
    case l => k_is
    case c => k_is
    case k => k_is
    case r =>
    intro d_chosen
    refine' WI.with_dat (x := "with_sides") (st := WI.s_with_sides) KX G ?a ?l ?c ?k ?r
    case a => k_is
    case l => k_is
    case c => k_is
    case k => k_is
    case r =>
    intro d_with_sides
    refine' WI.with_dat (x := "sides_of_yard") (st := WI.s_sides_of_yard) KX G ?a ?l ?c ?k ?r
    case a => k_is
    case l => k_is
    case c => k_is
    case k => k_is
    case r =>
    intro d_sides_of_yard
    refine' WI.with_dat (x := "turned_of") (st := WI.s_turned_of) KX G ?a ?l ?c ?k ?r
    case a => k_is
    case l => k_is
    case c => k_is
    case k => k_is
    case r =>
    intro d_turned_of
    refine' WI.with_dat (x := "turned") (st := WI.s_turned) KX G ?a ?l ?c ?k ?r
    case a => k_is
    case l => k_is
    case c => k_is
    case k => k_is
    case r =>
    intro d_turned
    refine' WI.with_dat (x := "busy") (st := WI.s_busy) KX G ?a ?l ?c ?k ?r
    case a => k_is
    case l => k_is
    case c => k_is
    case k => k_is
    case r =>
    intro d_busy
    refine' WI.with_dat (x := "ring_of") (st := WI.s_ring_of) KX G ?a ?l ?c ?k ?r
    case a => k_is
    case l => k_is
    case c => k_is
    case k => k_is
    case r =>
    intro d_ring_of
    refine' WI.with_datC (x := "least_tree") (st := WI.s_least_tree) 193 KX G ?a ?l ?c ?k ?hd ?hn ?r
    case a => k_is
    case l => k_is
    case c => k_is
    case k => k_is
    case hd => first | k_is | kernel_rfl
    case hn => first | k_is | kernel_rfl
    case r =>
    intro d_least_tree h_least_tree n_least_tree
    refine' WI.with_dat (x := "costs_to") (st := WI.s_costs_to) KX G ?a ?l ?c ?k ?r
    case a => k_is
    case l => k_is
    case c => k_is
    case k => k_is
    case r =>
    intro d_costs_to
    refine' WI.with_dat (x := "fewest_changes") (st := WI.s_fewest_changes) KX G ?a ?l ?c ?k ?r
    case a => k_is
    case l => k_is
    case c => k_is
    case k => k_is
    case r =>
    intro d_fewest_changes
    refine' WI.with_datC (x := "lots_of") (st := WI.s_lots_of) 167 KX G ?a ?l ?c ?k ?hd ?hn ?r
    case a => k_is
    case l => k_is
    case c => k_is
    case k => k_is
    case hd => first | k_is | kernel_rfl
    case hn => first | k_is | kernel_rfl
    case r =>
    intro d_lots_of h_lots_of n_lots_of
    refine' WI.with_dat (x := "change_lots") (st := WI.s_change_lots) KX G ?a ?l ?c ?k ?r
    case a => k_is
    case l => k_is
    case c => k_is
    case k => k_is
    case r =>
    intro d_change_lots
    refine' WI.with_dat (x := "_law_taken") (st := WI.s_law_taken) KX G ?a ?l ?c ?k ?r
    case a => k_is
    case l => k_is
    case c => k_is
    case k => k_is
    case r =>
    intro d_law_taken
    refine' WI.with_dat (x := "_law_yard") (st := WI.s_law_yard) KX G ?a ?l ?c ?k ?r
    case a => k_is
    case l => k_is
    case c => k_is
    case k => k_is
    case r =>
    intro d_law_yard
    refine' WI.with_dat (x := "_law_sides") (st := WI.s_law_sides) KX G ?a ?l ?c ?k ?r
    case a => k_is
    case l => k_is
    case c => k_is
    case k => k_is
    case r =>
    intro d_law_sides
    refine' WI.with_dat (x := "_law_come") (st := WI.s_law_come) KX G ?a ?l ?c ?k ?r
    case a => k_is
    case l => k_is
    case c => k_is
    case k => k_is
    case r =>
    intro d_law_come
    refine' WI.with_dat (x := "_law_heart") (st := WI.s_law_heart) KX G ?a ?l ?c ?k ?r
    case a => k_is
    case l => k_is
    case c => k_is
    case k => k_is
    case r =>
    intro d_law_heart
    refine' WI.with_dat (x := "_law_leaves") (st := WI.s_law_leaves) KX G ?a ?l ?c ?k ?r
    case a => k_is
    case l => k_is
    case c => k_is
    case k => k_is
    case r =>
    intro d_law_leaves
    refine' WI.with_dat (x := "_law_chosen") (st := WI.s_law_chosen) KX G ?a ?l ?c ?k ?r
    case a => k_is
    case l => k_is
    case c => k_is
    case k => k_is
    case r =>
    intro d_law_chosen
    refine' WI.with_dat (x := "_law_some") (st := WI.s_law_some) KX G ?a ?l ?c ?k ?r
    case a => k_is
    case l => k_is
    case c => k_is
    case k => k_is
    case r =>
    intro d_law_some
    refine' WI.with_dat (x := "_law_alike") (st := WI.s_law_alike) KX G ?a ?l ?c ?k ?r
    case a => k_is
    case l => k_is
    case c => k_is
    case k => k_is
    case r =>
    intro d_law_alike
    refine' WI.with_dat (x := "law") (st := WI.s_law) KX G ?a ?l ?c ?k ?r
    case a => k_is
    case l => k_is
    case c => k_is
    case k => k_is
    case r =>
    intro d_law
    exact WI.all_of hmg GB (hT8 167 (by decide)) (hT8 193 (by decide)) n_lots_of n_least_tree h_lots_of h_least_tree (by decide) d_is_int d_is_from d_is_wall d_need_yard d_sides_of d_every d_need_lot d_reached d_has_order d_is_growth d_need_sides d_chosen d_with_sides d_sides_of_yard d_turned_of d_turned d_busy d_ring_of d_least_tree d_costs_to d_fewest_changes d_lots_of d_change_lots d_law_taken d_law_yard d_law_sides d_law_come d_law_heart d_law_leaves d_law_chosen d_law_some d_law_alike d_law
