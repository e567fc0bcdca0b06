import PyProof.Rows.All
import Wide.All
import OpenK.AllK
import Wide.FinOn
import HandS.ForMost
import HandS.AnyAll
import HandS.Conv
import HandS.IsInst
import HandS.Walk
import KE.GoesEnum
import HandS.TupMul
import HandS.Deep
import PySem.Challenge.RW_bellcopies_k84_across_agreements
import HandS.Star
import HandS.Style
import HandS.TupAny
import HandS.DictComp
import HandS.More
import HandS.Remove
import HandS.SetFor
import PyProof.Rows.SumGenD
import KE.KStateDown
import HandS.Ends
import HandS.Defaults
import HandS.Head0
import HandS.Head1
import HandS.Head2
import HandS.HeadEnd
import HandS.HeadHook1
import HandS.HeadHook2
import HandS.HeadHook3
import HandS.HeadHook4
import HandS.HeadWalk
set_option Elab.async false
set_option linter.all false
set_option maxRecDepth 100000
set_option maxHeartbeats 0
/-! The plain law: cheapest sets of arcs by raised groups (primal and dual), no program in sight. -/
namespace K84

/-- b can be reached from a by steps of E -/
inductive Rch (E : Int → Int → Prop) (a : Int) : Int → Prop
  | refl : Rch E a a
  | step {b c : Int} : Rch E a b → E b c → Rch E a c

theorem Rch.mono {E F : Int → Int → Prop} {a b : Int} (h : Rch E a b) (f : ∀ u v, E u v → F u v) : Rch F a b := by
  induction h with
  | refl => exact .refl
  | step _ e ih => exact ih.step (f _ _ e)
theorem Rch.trans {E : Int → Int → Prop} {a b c : Int} (h : Rch E a b) (k : Rch E b c) : Rch E a c := by
  induction k with
  | refl => exact h
  | step _ e ih => exact ih.step e
theorem Rch.head {E : Int → Int → Prop} {a b c : Int} (e : E a b) (k : Rch E b c) : Rch E a c := (Rch.refl.step e).trans k

/-- the first step of a way into S -/
theorem Rch.into {E : Int → Int → Prop} {S : Int → Prop} {r : Int} (hr : ¬ S r) : ∀ {x : Int}, Rch E r x →
    (¬ S x ∧ Rch (fun a b => E a b ∧ ¬ S b) r x) ∨ ∃ u v, E u v ∧ ¬ S u ∧ S v ∧ Rch (fun a b => E a b ∧ ¬ S b) r u := by
  intro x h
  induction h with
  | refl => exact .inl ⟨hr, .refl⟩
  | @step b c _ e ih =>
    rcases ih with ⟨nb, w⟩ | q
    · by_cases hc : S c
      · exact .inr ⟨b, c, e, nb, hc, w⟩
      · exact .inl ⟨hc, w.step ⟨e, hc⟩⟩
    · exact .inr q

abbrev Arcs := List (Int × Int)
/-- an arc of T leads from u to v -/
def Ed (A : Arcs) (T : List Nat) (u v : Int) : Prop := ∃ k, k ∈ T ∧ A[k]? = some (u, v)
theorem Ed.mono {A : Arcs} {T U : List Nat} (h : ∀ x, x ∈ T → x ∈ U) {u v : Int} (e : Ed A T u v) : Ed A U u v :=
  let ⟨k, hk, q⟩ := e; ⟨k, h k hk, q⟩
/-- all of 1 .. n can be reached from r by arcs of T -/
def All (n : Int) (A : Arcs) (T : List Nat) (r : Int) : Prop := ∀ v, 1 ≤ v → v ≤ n → Rch (Ed A T) r v
theorem All.mono {n : Int} {A : Arcs} {T U : List Nat} {r : Int} (h : ∀ x, x ∈ T → x ∈ U) (a : All n A T r) : All n A U r :=
  fun v h1 h2 => (a v h1 h2).mono fun _ _ e => e.mono h

/-- arc k leads into S from outside -/
def ent (A : Arcs) (S : List Int) (k : Nat) : Bool := match A[k]? with
  | some (u, v) => S.contains v && !S.contains u
  | none => false
theorem ent_iff {A : Arcs} {S : List Int} {k : Nat} : ent A S k = true ↔ ∃ u v, A[k]? = some (u, v) ∧ v ∈ S ∧ ¬ u ∈ S := by
  unfold ent
  cases h : A[k]? with
  | none => simp
  | some p =>
    obtain ⟨u, v⟩ := p
    simp only [Bool.and_eq_true, List.contains_iff_mem, Bool.not_eq_true', Option.some.injEq, Prod.mk.injEq]
    constructor
    · rintro ⟨h1, h2⟩
      refine ⟨u, v, ⟨rfl, rfl⟩, h1, fun z => ?_⟩
      rw [List.contains_iff_mem.mpr z] at h2
      cases h2
    · rintro ⟨u', v', ⟨rfl, rfl⟩, h1, h2⟩
      refine ⟨h1, ?_⟩
      cases q : S.contains u with
      | false => rfl
      | true => exact absurd (List.contains_iff_mem.mp q) h2

def without (k : Nat) (T : List Nat) : List Nat := T.filter fun x => decide (x ≠ k)
theorem mem_without {k x : Nat} {T : List Nat} : x ∈ without k T ↔ x ∈ T ∧ x ≠ k := by
  unfold without
  rw [List.mem_filter, decide_eq_true_iff]

/-- THE CUT: where each arc of T that enters S is needed though S hangs together without it, T enters S just once -/
theorem cut {n r : Int} {A : Arcs} {T : List Nat} {S : List Int} (hall : All n A T r) (hr : ¬ r ∈ S) {s : Int} (hs : s ∈ S) (h1 : 1 ≤ s) (h2 : s ≤ n)
    (need : ∀ k, k ∈ T → ent A S k = true → ∃ U : List Nat, (∀ x, x ∈ T → x ∈ U) ∧ (∀ a b, a ∈ S → b ∈ S → Rch (Ed A (without k U)) a b) ∧ ¬ All n A (without k U) r) :
    ∃ l, l ∈ T ∧ ent A S l = true ∧ ∀ j, j ∈ T → ent A S j = true → j = l := by
  rcases Rch.into (S := fun x => x ∈ S) hr (hall s h1 h2) with ⟨ns, _⟩ | ⟨u, v, ⟨l, hl, el⟩, nu, hv, w⟩
  · exact absurd hs ns
  refine ⟨l, hl, ent_iff.mpr ⟨u, v, el, hv, nu⟩, fun j hj ej => ?_⟩
  by_cases hjl : j = l
  · exact hjl
  obtain ⟨U, hTU, hin, hno⟩ := need j hj ej
  obtain ⟨u', v', ea, hv', nu'⟩ := ent_iff.mp ej
  have toU : Rch (Ed A (without j U)) r u := w.mono fun a b ⟨⟨k, hk, ek⟩, nb⟩ => ⟨k, mem_without.mpr ⟨hTU k hk, fun z => by
    rw [z, ea] at ek
    cases ek
    exact nb hv'⟩, ek⟩
  have toV : Rch (Ed A (without j U)) r v := toU.step ⟨l, mem_without.mpr ⟨hTU l hl, fun z => hjl z.symm⟩, el⟩
  have toV' : Rch (Ed A (without j U)) r v' := toV.trans (hin v v' hv hv')
  have all' : ∀ x, Rch (Ed A U) r x → Rch (Ed A (without j U)) r x := fun x hx => by
    induction hx with
    | refl => exact .refl
    | @step b c _ e ih =>
      obtain ⟨k, hk, ek⟩ := e
      by_cases hkj : k = j
      · rw [hkj, ea] at ek
        cases ek
        exact toV'
      · exact ih.step ⟨k, mem_without.mpr ⟨hk, hkj⟩, ek⟩
  exact absurd (fun x hx1 hx2 => all' x (hall.mono hTU x hx1 hx2)) hno

/-! ### sums over lists -/
theorem sum_app (l k : List Int) : (l ++ k).sum = l.sum + k.sum := by
  induction l with
  | nil => simp
  | cons a r ih => rw [List.cons_append, List.sum_cons, List.sum_cons, ih]; omega
theorem sum_map_add {α : Type} (f g : α → Int) (l : List α) : (l.map fun x => f x + g x).sum = (l.map f).sum + (l.map g).sum := by
  induction l with
  | nil => rfl
  | cons a r ih => rw [List.map_cons, List.map_cons, List.map_cons, List.sum_cons, List.sum_cons, List.sum_cons, ih]; omega
theorem sum_map_const {α : Type} (c : Int) (l : List α) : (l.map fun _ => c).sum = c * (l.length : Int) := by
  induction l with
  | nil => simp
  | cons a r ih =>
    rw [List.map_cons, List.sum_cons, ih, List.length_cons, Int.natCast_add, Int.mul_add]
    simp
    omega
theorem sum_map_le {α : Type} {f g : α → Int} {l : List α} (h : ∀ x, x ∈ l → f x ≤ g x) : (l.map f).sum ≤ (l.map g).sum := by
  induction l with
  | nil => exact Int.le_refl _
  | cons a r ih =>
    rw [List.map_cons, List.map_cons, List.sum_cons, List.sum_cons]
    have h1 := h a List.mem_cons_self
    have h2 := ih fun x hx => h x (List.mem_cons_of_mem _ hx)
    omega
theorem sum_map_eq {α : Type} {f g : α → Int} {l : List α} (h : ∀ x, x ∈ l → f x = g x) : (l.map f).sum = (l.map g).sum := by
  induction l with
  | nil => rfl
  | cons a r ih =>
    rw [List.map_cons, List.map_cons, List.sum_cons, List.sum_cons, h a List.mem_cons_self, ih fun x hx => h x (List.mem_cons_of_mem _ hx)]
theorem sum_perm {l k : List Int} (h : l.Perm k) : l.sum = k.sum := by
  induction h with
  | nil => rfl
  | cons a _ ih => rw [List.sum_cons, List.sum_cons, ih]
  | swap a b l => rw [List.sum_cons, List.sum_cons, List.sum_cons, List.sum_cons]; omega
  | trans _ _ h1 h2 => rw [h1, h2]
theorem sum_ite {y : Int} (p : Nat → Bool) (T : List Nat) : (T.map fun k => if p k = true then y else 0).sum = y * ((T.filter p).length : Int) := by
  induction T with
  | nil => simp
  | cons a r ih =>
    rw [List.map_cons, List.sum_cons, ih, List.filter_cons]
    by_cases h : p a = true
    · rw [if_pos h, if_pos h, List.length_cons, Int.natCast_add, Int.mul_add]
      simp
      omega
    · rw [if_neg h, if_neg h]
      omega

/-! ### groups with weights -/
abbrev Hist := List (List Int × Int)
/-- what the groups that arc k enters weigh together -/
def load (A : Arcs) (hs : Hist) (k : Nat) : Int := (hs.map fun h => if ent A h.1 k = true then h.2 else 0).sum
theorem load_snoc {A : Arcs} {hs : Hist} {S : List Int} {y : Int} {k : Nat} : load A (hs ++ [(S, y)]) k = load A hs k + if ent A S k = true then y else 0 := by
  unfold load
  rw [List.map_append, sum_app]
  simp
/-- what a set of arcs costs -/
def cost (p : List Int) (T : List Nat) : Int := (T.map fun k => p.getD k 0).sum
def wsum (hs : Hist) : Int := (hs.map fun h => h.2).sum
theorem load_sum (A : Arcs) (T : List Nat) : ∀ hs : Hist, (T.map (load A hs)).sum = (hs.map fun h => h.2 * ((T.filter (ent A h.1)).length : Int)).sum
  | [] => by
    show (T.map fun _ => (0 : Int)).sum = 0
    rw [sum_map_const]
    simp
  | h :: r => by
    have e : T.map (load A (h :: r)) = T.map fun k => (if ent A h.1 k = true then h.2 else 0) + load A r k := rfl
    rw [e, sum_map_add, load_sum A T r, sum_ite, List.map_cons, List.sum_cons]

/-- the weights are paid by T: each group is entered just once, by arcs that are paid in full -/
theorem cost_eq {A : Arcs} {p : List Int} {T : List Nat} {hs : Hist} (hp : ∀ k, k ∈ T → p.getD k 0 = load A hs k) (h1 : ∀ h, h ∈ hs → (T.filter (ent A h.1)).length = 1) : cost p T = wsum hs := by
  unfold cost wsum
  rw [sum_map_eq hp, load_sum]
  refine sum_map_eq fun h hh => ?_
  rw [h1 h hh]
  simp
/-- no set of arcs that enters each group is cheaper than the weights -/
theorem cost_ge {A : Arcs} {p : List Int} {T : List Nat} {hs : Hist} (hp : ∀ k, k ∈ T → load A hs k ≤ p.getD k 0) (h1 : ∀ h, h ∈ hs → 0 ≤ h.2 ∧ 1 ≤ (T.filter (ent A h.1)).length) : wsum hs ≤ cost p T := by
  unfold cost wsum
  refine Int.le_trans ?_ (sum_map_le hp)
  have e := load_sum A T hs
  rw [e]
  refine sum_map_le fun h hh => ?_
  obtain ⟨a, b⟩ := h1 h hh
  have c : (1 : Int) ≤ ((T.filter (ent A h.1)).length : Int) := by omega
  calc h.2 = h.2 * 1 := (Int.mul_one _).symm
    _ ≤ h.2 * ((T.filter (ent A h.1)).length : Int) := Int.mul_le_mul_of_nonneg_left c a

theorem filter_one {T : List Nat} (hn : T.Nodup) {q : Nat → Bool} {l : Nat} (hl : l ∈ T) (ql : q l = true) (hu : ∀ j, j ∈ T → q j = true → j = l) : (T.filter q).length = 1 := by
  have n2 : (T.filter q).Nodup := hn.sublist List.filter_sublist
  have m : l ∈ T.filter q := List.mem_filter.mpr ⟨hl, ql⟩
  have u : ∀ j, j ∈ T.filter q → j = l := fun j hj => hu j (List.mem_filter.mp hj).1 (List.mem_filter.mp hj).2
  cases e : T.filter q with
  | nil => rw [e] at m; cases m
  | cons a r =>
    cases r with
    | nil => rfl
    | cons b r' =>
      rw [e] at n2 u
      have h1 := u a List.mem_cons_self
      have h2 := u b (List.mem_cons_of_mem _ List.mem_cons_self)
      rw [h1, h2] at n2
      exact absurd List.mem_cons_self (List.nodup_cons.mp n2).1

/-! ### the web, what is told of the raising, of the deleting -/
structure Web (n : Int) (A : Arcs) : Prop where
  lo : 1 ≤ n
  hi : n ≤ 6
  few : A.length ≤ 12
  ok : ∀ u v, (u, v) ∈ A → (1 ≤ u ∧ u ≤ n) ∧ (1 ≤ v ∧ v ≤ n) ∧ u ≠ v
  nd : A.Nodup

/-- of each group: it does not hold r, it holds somebody, it hangs together by arcs that were paid ahead of it, none of which enters it -/
structure GrpOk (n : Int) (A : Arcs) (r : Int) (paid : List Nat) (S : List Int) (y : Int) : Prop where
  pos : 0 < y
  nr : ¬ r ∈ S
  one : ∃ s, s ∈ S ∧ 1 ≤ s ∧ s ≤ n
  pre : ∃ pre : List Nat, pre <+: paid ∧ (∀ k, k ∈ pre → ent A S k = false) ∧ ∀ a b, a ∈ S → b ∈ S → Rch (Ed A pre) a b

structure Raised (n : Int) (A : Arcs) (p : List Int) (r : Int) (paid : List Nat) (hs : Hist) : Prop where
  nd : paid.Nodup
  full : ∀ k, k ∈ paid → k < A.length ∧ p.getD k 0 = load A hs k
  within : ∀ k, k < A.length → load A hs k ≤ p.getD k 0
  grp : ∀ S y, (S, y) ∈ hs → GrpOk n A r paid S y
  all : All n A paid r

/-- T is what is left of paid when each arc that is not needed has been dropped, from the last one on -/
structure Chosen (n : Int) (A : Arcs) (r : Int) (paid T : List Nat) : Prop where
  nd : T.Nodup
  sub : ∀ k, k ∈ T → k ∈ paid
  all : All n A T r
  need : ∀ k, k ∈ T → ∃ U : List Nat, (∀ x, x ∈ T → x ∈ U) ∧ (∀ pre : List Nat, pre <+: paid → ¬ k ∈ pre → ∀ x, x ∈ pre → x ∈ U) ∧ ¬ All n A (without k U) r

/-- T is a cheapest set of arcs, W its price -/
structure Opt (n : Int) (A : Arcs) (p : List Int) (r W : Int) (T : List Nat) : Prop where
  nd : T.Nodup
  rng : ∀ k, k ∈ T → k < A.length
  all : All n A T r
  len : (T.length : Int) + 1 = n
  price : cost p T = W
  least : ∀ U : List Nat, (∀ k, k ∈ U → k < A.length) → All n A U r → W ≤ cost p U

section
variable {n r : Int} {A : Arcs} {p : List Int} {paid T : List Nat} {hs : Hist}
theorem Raised.enters (R : Raised n A p r paid hs) {S : List Int} {y : Int} (hS : (S, y) ∈ hs) {U : List Nat} (hU : All n A U r) : 1 ≤ (U.filter (ent A S)).length := by
  obtain ⟨s, hs1, h1, h2⟩ := (R.grp S y hS).one
  rcases Rch.into (S := fun x => x ∈ S) (R.grp S y hS).nr (hU s h1 h2) with ⟨ns, _⟩ | ⟨u, v, ⟨l, hl, el⟩, nu, hv, _⟩
  · exact absurd hs1 ns
  · exact List.length_pos_of_mem (List.mem_filter.mpr ⟨hl, ent_iff.mpr ⟨u, v, el, hv, nu⟩⟩)
theorem Chosen.once (C : Chosen n A r paid T) {S : List Int} {y : Int} (G : GrpOk n A r paid S y) : (T.filter (ent A S)).length = 1 := by
  obtain ⟨s, hs1, h1, h2⟩ := G.one
  obtain ⟨pre, hp, hno, hin⟩ := G.pre
  obtain ⟨l, hl, el, hu⟩ := cut C.all G.nr hs1 h1 h2 fun k hk ek => by
    have kp : ¬ k ∈ pre := fun z => by rw [hno k z] at ek; cases ek
    obtain ⟨U, hTU, hpre, hnot⟩ := C.need k hk
    exact ⟨U, hTU, fun a b ha hb => (hin a b ha hb).mono fun _ _ e => e.mono fun x hx => mem_without.mpr ⟨hpre pre hp kp x hx, fun z => kp (by rw [← z]; exact hx)⟩, hnot⟩
  exact filter_one C.nd hl el hu
/-- each person but r is led to by just one arc, r by none -/
theorem Chosen.goals (Wb : Web n A) (hr1 : 1 ≤ r) (hr2 : r ≤ n) (C : Chosen n A r paid T) (hrng : ∀ k, k ∈ T → k < A.length) : (T.length : Int) + 1 = n := by
  have goal : ∀ k, k ∈ T → ∃ u v, A[k]? = some (u, v) ∧ (1 ≤ v ∧ v ≤ n) ∧ u ≠ v := fun k hk => by
    have q := List.getElem?_eq_getElem (hrng k hk)
    have m := List.getElem_mem (hrng k hk)
    generalize A[k]'(hrng k hk) = e at q m
    obtain ⟨u, v⟩ := e
    obtain ⟨_, h2, h3⟩ := Wb.ok u v m
    exact ⟨u, v, q, h2, h3⟩
  have notr : ∀ k, k ∈ T → ∀ u, A[k]? ≠ some (u, r) := fun k hk u e => by
    obtain ⟨U, hTU, _, hno⟩ := C.need k hk
    have all' : ∀ x, Rch (Ed A U) r x → Rch (Ed A (without k U)) r x := fun x hx => by
      induction hx with
      | refl => exact .refl
      | @step b c _ e' ih =>
        obtain ⟨j, hj, ej⟩ := e'
        by_cases hjk : j = k
        · rw [hjk, e] at ej
          cases ej
          exact .refl
        · exact ih.step ⟨j, mem_without.mpr ⟨hj, hjk⟩, ej⟩
    exact hno fun x h1 h2 => all' x (C.all.mono hTU x h1 h2)
  have once : ∀ v, 1 ≤ v → v ≤ n → v ≠ r → ∃ l, l ∈ T ∧ (∃ u, A[l]? = some (u, v)) ∧ ∀ j, j ∈ T → (∃ u, A[j]? = some (u, v)) → j = l := fun v h1 h2 hv => by
    have entv : ∀ k, k ∈ T → (ent A [v] k = true ↔ ∃ u, A[k]? = some (u, v)) := fun k hk => by
      rw [ent_iff]
      constructor
      · rintro ⟨u, v', e, hv', _⟩
        exact ⟨u, by rw [e, List.mem_singleton.mp hv']⟩
      · rintro ⟨u, e⟩
        obtain ⟨u', v', e', _, hne⟩ := goal k hk
        rw [e] at e'
        cases e'
        exact ⟨u, v, e, List.mem_singleton.mpr rfl, fun z => hne (List.mem_singleton.mp z)⟩
    obtain ⟨l, hl, el, hu⟩ := cut (S := [v]) C.all (fun z => hv (List.mem_singleton.mp z).symm) (List.mem_singleton.mpr rfl) h1 h2 fun k hk _ => by
      obtain ⟨U, hTU, _, hnot⟩ := C.need k hk
      refine ⟨U, hTU, fun a b ha hb => ?_, hnot⟩
      rw [List.mem_singleton.mp ha, List.mem_singleton.mp hb]
      exact .refl
    exact ⟨l, hl, (entv l hl).mp el, fun j hj ej => hu j hj ((entv j hj).mpr ej)⟩
  -- the goals, as a list
  let gl : Nat → Int := fun k => ((A[k]?).getD (0, 0)).2
  have glE : ∀ k u v, A[k]? = some (u, v) → gl k = v := fun k u v e => by
    show ((A[k]?).getD (0, 0)).2 = v
    rw [e]
    rfl
  have nd : (r :: T.map gl).Nodup := by
    refine List.nodup_cons.mpr ⟨fun m => ?_, ?_⟩
    · obtain ⟨k, hk, e⟩ := List.mem_map.mp m
      obtain ⟨u, v, q, _, _⟩ := goal k hk
      rw [glE k u v q] at e
      rw [e] at q
      exact notr k hk u q
    · have pw : T.Pairwise fun a b => gl a ≠ gl b := by
        refine (List.Pairwise.and_mem.mp C.nd).imp ?_
        rintro a b ⟨ha, hb, hab⟩ e
        obtain ⟨u, v, q, ⟨h1, h2⟩, _⟩ := goal a ha
        obtain ⟨u', v', q', _, _⟩ := goal b hb
        rw [glE a u v q, glE b u' v' q'] at e
        subst e
        have hvr : v ≠ r := fun z => notr a ha u (by rw [← z]; exact q)
        obtain ⟨l, _, _, hu⟩ := once v h1 h2 hvr
        exact hab ((hu a ha ⟨u, q⟩).trans (hu b hb ⟨u', q'⟩).symm)
      exact List.pairwise_map.mpr pw
  let ppl : List Int := (List.range n.toNat).map fun (i : Nat) => (i : Int) + 1
  have memP : ∀ x, x ∈ ppl ↔ 1 ≤ x ∧ x ≤ n := fun x => by
    constructor
    · intro m
      obtain ⟨i, hi, e⟩ := List.mem_map.mp m
      have := List.mem_range.mp hi
      omega
    · rintro ⟨h1, h2⟩
      exact List.mem_map.mpr ⟨(x - 1).toNat, List.mem_range.mpr (by omega), by omega⟩
  have ndP : ppl.Nodup := List.pairwise_map.mpr (List.nodup_range.imp fun h e => h (by omega))
  have same : (r :: T.map gl).Perm ppl := by
    refine (List.perm_ext_iff_of_nodup nd ndP).mpr fun x => ?_
    rw [memP]
    constructor
    · intro m
      rcases List.mem_cons.mp m with e | m
      · rw [e]; exact ⟨hr1, hr2⟩
      · obtain ⟨k, hk, e⟩ := List.mem_map.mp m
        obtain ⟨u, v, q, h, _⟩ := goal k hk
        rw [glE k u v q] at e
        rw [← e]
        exact h
    · rintro ⟨h1, h2⟩
      by_cases hx : x = r
      · rw [hx]; exact List.mem_cons_self
      · obtain ⟨l, hl, ⟨u, e⟩, _⟩ := once x h1 h2 hx
        exact List.mem_cons_of_mem _ (List.mem_map.mpr ⟨l, hl, glE l u x e⟩)
  have len := same.length_eq
  rw [List.length_cons, List.length_map] at len
  have lp : ppl.length = n.toNat := by rw [List.length_map, List.length_range]
  omega

/-- THE PRICE: the weights together are the least price, the arcs that are left have it -/
theorem opt_of (Wb : Web n A) (hr1 : 1 ≤ r) (hr2 : r ≤ n) (R : Raised n A p r paid hs) (C : Chosen n A r paid T) : Opt n A p r (wsum hs) T where
  nd := C.nd
  rng := fun k hk => (R.full k (C.sub k hk)).1
  all := C.all
  len := C.goals Wb hr1 hr2 fun k hk => (R.full k (C.sub k hk)).1
  price := cost_eq (fun k hk => (R.full k (C.sub k hk)).2) fun h hh => C.once (R.grp h.1 h.2 hh)
  least := fun U hU aU => cost_ge (fun k hk => R.within k (hU k hk)) fun h hh => ⟨Int.le_of_lt (R.grp h.1 h.2 hh).pos, R.enters (S := h.1) (y := h.2) hh aU⟩

theorem Opt.uniq {W W' : Int} {T' : List Nat} (a : Opt n A p r W T) (b : Opt n A p r W' T') : W = W' := by
  have h1 := a.least T' b.rng b.all
  have h2 := b.least T a.rng a.all
  rw [b.price] at h1
  rw [a.price] at h2
  omega
/-- prices that are all c more -/
theorem cost_more {q : List Int} {c : Int} (h : ∀ k, k < A.length → q.getD k 0 = p.getD k 0 + c) (hT : ∀ k, k ∈ T → k < A.length) : cost q T = cost p T + c * (T.length : Int) := by
  unfold cost
  rw [sum_map_eq (g := fun k => p.getD k 0 + c) fun k hk => h k (hT k hk), sum_map_add, sum_map_const]
theorem Opt.more {q : List Int} {c W W' : Int} {T' : List Nat} (h : ∀ k, k < A.length → q.getD k 0 = p.getD k 0 + c) (a : Opt n A p r W T) (b : Opt n A q r W' T') : W' = W + c * (n - 1) := by
  have h1 := a.least T' b.rng b.all
  have h2 := b.least T a.rng a.all
  have e1 := cost_more h a.rng
  have e2 := cost_more h b.rng
  have l1 : (T.length : Int) = n - 1 := by have := a.len; omega
  have l2 : (T'.length : Int) = n - 1 := by have := b.len; omega
  rw [l1, a.price] at e1
  rw [l2, b.price] at e2
  omega
theorem Opt.equal {c W : Int} (h : ∀ k, k < A.length → p.getD k 0 = c) (a : Opt n A p r W T) : W = c * (n - 1) := by
  have e : cost p T = c * (T.length : Int) := by
    unfold cost
    rw [sum_map_eq (g := fun _ => c) fun k hk => h k (a.rng k hk), sum_map_const]
  have l1 : (T.length : Int) = n - 1 := by have := a.len; omega
  rw [← a.price, e, l1]
end
end K84
/-! The loops' words, in plain Lean. -/
namespace K84
def pplI (n : Int) : List Int := (List.range n.toNat).map fun (i : Nat) => (i : Int) + 1
theorem nd_ix2 {α : Type} {l : List α} (hN : l.Nodup) {i j : Nat} {x : α} (a : l[i]? = some x) (b : l[j]? = some x) : i = j := by
  obtain ⟨h1, e1⟩ := List.getElem?_eq_some_iff.mp a
  obtain ⟨h2, e2⟩ := List.getElem?_eq_some_iff.mp b
  exact (List.getElem_inj hN).mp (e1.trans e2.symm)
theorem mem_ppl {n x : Int} : x ∈ pplI n ↔ 1 ≤ x ∧ x ≤ n := by
  unfold pplI
  constructor
  · intro m
    obtain ⟨i, hi, e⟩ := List.mem_map.mp m
    have := List.mem_range.mp hi
    omega
  · rintro ⟨h1, h2⟩
    exact List.mem_map.mpr ⟨(x - 1).toNat, List.mem_range.mpr (by omega), by omega⟩
theorem nd_ppl (n : Int) : (pplI n).Nodup := List.pairwise_map.mpr (List.nodup_range.imp fun h e => h (by omega))
theorem len_ppl (n : Int) : (pplI n).length = n.toNat := by unfold pplI; rw [List.length_map, List.length_range]
theorem get_ppl {n : Int} {i : Nat} (h : i < n.toNat) : (pplI n)[i]? = some ((i : Int) + 1) := by
  unfold pplI
  rw [List.getElem?_map, List.getElem?_range h]
  rfl
/-- a list without repetition, within another one -/
theorem nd_len {l k : List Int} (hn : l.Nodup) (h : ∀ x, x ∈ l → x ∈ k) : l.length ≤ k.length := by
  induction l generalizing k with
  | nil => exact Nat.zero_le _
  | cons a r ih =>
    obtain ⟨h1, h2⟩ := List.nodup_cons.mp hn
    have ha : a ∈ k := h a List.mem_cons_self
    have q := ih h2 (k := k.erase a) fun x hx => (List.mem_erase_of_ne fun e => h1 (by rw [← e]; exact hx)).mpr (h x (List.mem_cons_of_mem _ hx))
    rw [List.length_erase_of_mem ha] at q
    have := List.length_pos_of_mem ha
    rw [List.length_cons]
    omega
theorem nd_sub {l k : List Int} (hn : l.Nodup) (h : ∀ x, x ∈ l → x ∈ k) (hl : k.length ≤ l.length) {x : Int} (hx : x ∈ k) : x ∈ l := by
  by_cases m : x ∈ l
  · exact m
  · have q := nd_len (l := x :: l) (k := k) (List.nodup_cons.mpr ⟨m, hn⟩) fun y hy => by
      rcases List.mem_cons.mp hy with e | e
      · rw [e]; exact hx
      · exact h y e
    rw [List.length_cons] at q
    omega
/-- all of 1 .. n, by the number -/
theorem nd_all {n : Int} {l : List Int} (h0 : 0 ≤ n) (hn : l.Nodup) (h : ∀ x, x ∈ l → 1 ≤ x ∧ x ≤ n) : (l.length : Int) ≤ n ∧ ((l.length : Int) = n ↔ ∀ x, 1 ≤ x → x ≤ n → x ∈ l) := by
  have q := nd_len hn (k := pplI n) fun x hx => mem_ppl.mpr (h x hx)
  rw [len_ppl] at q
  refine ⟨by omega, fun e x h1 h2 => nd_sub hn (k := pplI n) (fun y hy => mem_ppl.mpr (h y hy)) (by rw [len_ppl]; omega) (mem_ppl.mpr ⟨h1, h2⟩), fun a => ?_⟩
  have q2 := nd_len (nd_ppl n) (k := l) fun x hx => a x (mem_ppl.mp hx).1 (mem_ppl.mp hx).2
  rw [len_ppl] at q2
  omega

/-! ### the search row by row -/
abbrev Er (E : Nat → Int → Int → Prop) (x y : Int) : Prop := ∃ j, E j x y
/-- K: the ones seen ahead of this round, more: those seen in it; i edges looked at -/
structure Bfs (E : Nat → Int → Int → Prop) (r : Int) (Ks rows more : List Int) (i : Nat) : Prop where
  nd : (Ks ++ more).Nodup
  reach : ∀ x, x ∈ Ks ++ more → Rch (Er E) r x
  sub : ∀ x, x ∈ rows → x ∈ Ks
  clo : ∀ j x y, E j x y → x ∈ Ks → ¬ x ∈ rows → y ∈ Ks
  did : ∀ j x y, j < i → E j x y → x ∈ rows → y ∈ Ks ++ more
  r0 : r ∈ Ks
section
variable {E : Nat → Int → Int → Prop} {r : Int} {Ks rows more : List Int} {i : Nat}
theorem Bfs.begin (E : Nat → Int → Int → Prop) (r : Int) : Bfs E r [r] [r] [] 0 where
  nd := by simp
  reach := fun x hx => by
    rw [List.append_nil] at hx
    rw [List.mem_singleton.mp hx]
    exact .refl
  sub := fun _ h => h
  clo := fun _ _ _ _ h n => absurd h n
  did := fun _ _ _ h => absurd h (Nat.not_lt_zero _)
  r0 := List.mem_singleton.mpr rfl
theorem Bfs.add (B : Bfs E r Ks rows more i) {x y : Int} (he : E i x y) (hu : ∀ x' y', E i x' y' → x' = x ∧ y' = y) (hx : x ∈ rows) (hy : ¬ y ∈ Ks ++ more) : Bfs E r Ks rows (more ++ [y]) (i + 1) where
  nd := by
    rw [← List.append_assoc]
    exact List.nodup_append.mpr ⟨B.nd, by simp, fun a ha b hb e => hy (by rw [← List.mem_singleton.mp hb, ← e]; exact ha)⟩
  reach := fun z hz => by
    rw [← List.append_assoc] at hz
    rcases List.mem_append.mp hz with q | q
    · exact B.reach z q
    · rw [List.mem_singleton.mp q]
      exact (B.reach x (List.mem_append_left _ (B.sub x hx))).step ⟨i, he⟩
  sub := B.sub
  clo := B.clo
  did := fun j x' y' hj e hx' => by
    rw [← List.append_assoc]
    by_cases q : j = i
    · subst q
      rw [(hu x' y' e).2]
      exact List.mem_append_right _ (List.mem_singleton.mpr rfl)
    · exact List.mem_append_left _ (B.did j x' y' (by omega) e hx')
  r0 := B.r0
theorem Bfs.skip (B : Bfs E r Ks rows more i) (h : ∀ x y, E i x y → x ∈ rows → y ∈ Ks ++ more) : Bfs E r Ks rows more (i + 1) :=
  ⟨B.nd, B.reach, B.sub, B.clo, fun j x y hj e hx => by
    by_cases q : j = i
    · subst q
      exact h x y e hx
    · exact B.did j x y (by omega) e hx, B.r0⟩
theorem Bfs.next (B : Bfs E r Ks rows more i) (hi : ∀ j x y, E j x y → j < i) : Bfs E r (Ks ++ more) more [] 0 where
  nd := by rw [List.append_nil]; exact B.nd
  reach := fun x hx => B.reach x (by rw [List.append_nil] at hx; exact hx)
  sub := fun x hx => List.mem_append_right _ hx
  clo := fun j x y e hx hn => by
    rcases List.mem_append.mp hx with q | q
    · by_cases hr : x ∈ rows
      · exact B.did j x y (hi j x y e) e hr
      · exact List.mem_append_left _ (B.clo j x y e q hr)
    · exact absurd q hn
  did := fun _ _ _ h => absurd h (Nat.not_lt_zero _)
  r0 := List.mem_append_left _ B.r0
theorem Bfs.done (B : Bfs E r Ks [] [] 0) (x : Int) : x ∈ Ks ↔ Rch (Er E) r x := by
  constructor
  · intro h
    exact B.reach x (List.mem_append_left _ h)
  · intro h
    induction h with
    | refl => exact B.r0
    | step _ e ih =>
      obtain ⟨j, e⟩ := e
      exact B.clo j _ _ e ih (by simp)
theorem Bfs.nd1 (B : Bfs E r Ks rows more i) : Ks.Nodup := (List.nodup_append.mp B.nd).1
/-- the number of rounds left -/
def mu (n : Int) (Ks rows : List Int) : Nat := 2 * (n.toNat - Ks.length) + (if rows = [] then 0 else 1)
theorem mu_falls {n : Int} (B : Bfs E r Ks rows more i) (hr : rows ≠ []) (h : ∀ x, x ∈ Ks ++ more → 1 ≤ x ∧ x ≤ n) : mu n (Ks ++ more) more < mu n Ks rows := by
  unfold mu
  rw [if_neg hr]
  have q := nd_len B.nd (k := pplI n) fun x hx => mem_ppl.mpr (h x hx)
  rw [len_ppl, List.length_append] at q
  rw [List.length_append]
  by_cases e : more = []
  · rw [if_pos e, e, List.length_nil]
    omega
  · rw [if_neg e]
    have : 0 < more.length := List.length_pos_iff.mpr e
    omega
end

/-! ### who reaches whom by paid arcs -/
/-- an arc that is paid in full -/
def PdE (A : Arcs) (rest : List Int) (u v : Int) : Prop := ∃ k : Nat, A[k]? = some (u, v) ∧ rest[k]? = some 0
/-- the truth of a statement, as a Bool -/
noncomputable def tr (p : Prop) : Bool := @decide p (Classical.propDecidable p)
theorem tr_iff {p : Prop} : tr p = true ↔ p := @decide_eq_true_iff p (Classical.propDecidable p)
/-- those from whom x is reached -/
noncomputable def rset (n : Int) (E : Int → Int → Prop) (x : Int) : List Int := (pplI n).filter fun y => tr (Rch E y x)
theorem mem_rset {n : Int} {E : Int → Int → Prop} {x y : Int} : y ∈ rset n E x ↔ (1 ≤ y ∧ y ≤ n) ∧ Rch E y x := by
  unfold rset
  rw [List.mem_filter, mem_ppl, tr_iff]
theorem nd_rset (n : Int) (E : Int → Int → Prop) (x : Int) : (rset n E x).Nodup := (nd_ppl n).sublist List.filter_sublist
theorem rset_of {n : Int} {E : Int → Int → Prop} {x : Int} {ys : List Int} (hn : ys.Nodup) (h : ∀ y, y ∈ ys ↔ (1 ≤ y ∧ y ≤ n) ∧ Rch E y x) : ys.Perm (rset n E x) :=
  (List.perm_ext_iff_of_nodup hn (nd_rset n E x)).mpr fun y => by rw [h, mem_rset]
/-- a least group -/
structure Least (n r : Int) (E : Int → Int → Prop) (S : List Int) : Prop where
  of_ : ∃ x, (1 ≤ x ∧ x ≤ n) ∧ S.Perm (rset n E x)
  nr : ¬ r ∈ S
  least : ∀ x, 1 ≤ x → x ≤ n → ¬ r ∈ rset n E x → S.length ≤ (rset n E x).length
theorem Least.within {n r : Int} {E : Int → Int → Prop} {S : List Int} (L : Least n r E S) : (∃ s, s ∈ S ∧ 1 ≤ s ∧ s ≤ n) ∧ (∀ u v, v ∈ S → E u v → 1 ≤ u ∧ u ≤ n → u ∈ S) ∧ ∀ a b, a ∈ S → b ∈ S → Rch E a b := by
  obtain ⟨x, hx, hp⟩ := L.of_
  have mem : ∀ y, y ∈ S ↔ (1 ≤ y ∧ y ≤ n) ∧ Rch E y x := fun y => by rw [hp.mem_iff, mem_rset]
  refine ⟨⟨x, (mem x).mpr ⟨hx, .refl⟩, hx.1, hx.2⟩, fun u v hv e hu => (mem u).mpr ⟨hu, .head e ((mem v).mp hv).2⟩, fun a b ha hb => ?_⟩
  have sub : ∀ y, y ∈ rset n E b → y ∈ S := fun y hy => (mem y).mpr ⟨(mem_rset.mp hy).1, (mem_rset.mp hy).2.trans ((mem b).mp hb).2⟩
  have hb' := ((mem b).mp hb).1
  have le := L.least b hb'.1 hb'.2 fun z => L.nr (sub r z)
  exact (mem_rset.mp (nd_sub (nd_rset n E b) sub le ha)).2

/-! ### raising -/
structure RI (n : Int) (A : Arcs) (p : List Int) (r : Int) (rest : List Int) (paid : List Nat) (hs : Hist) : Prop where
  len : rest.length = A.length
  eq : ∀ k, k < A.length → rest.getD k 0 = p.getD k 0 - load A hs k
  nn : ∀ k, k < A.length → 0 ≤ rest.getD k 0
  mem : ∀ k, k ∈ paid ↔ k < A.length ∧ rest.getD k 0 = 0
  nd : paid.Nodup
  grp : ∀ S y, (S, y) ∈ hs → GrpOk n A r paid S y
section
variable {n r : Int} {A : Arcs} {p rest rest' : List Int} {paid paid' : List Nat} {hs : Hist} {S : List Int} {y : Int}
theorem getD_some {l : List Int} {k : Nat} {x : Int} (h : l[k]? = some x) : l.getD k 0 = x := by rw [List.getD_eq_getElem?_getD, h]; rfl
theorem some_getD {l : List Int} {k : Nat} (h : k < l.length) : l[k]? = some (l.getD k 0) := by rw [List.getD_eq_getElem?_getD, List.getElem?_eq_getElem h]; rfl
theorem RI.pd (R : RI n A p r rest paid hs) {u v : Int} : PdE A rest u v ↔ Ed A paid u v := by
  constructor
  · rintro ⟨k, e, h⟩
    exact ⟨k, (R.mem k).mpr ⟨(List.getElem?_eq_some_iff.mp e).1, getD_some h⟩, e⟩
  · rintro ⟨k, hk, e⟩
    obtain ⟨h1, h2⟩ := (R.mem k).mp hk
    exact ⟨k, e, by rw [some_getD (by rw [R.len]; exact h1), h2]⟩
theorem RI.begin (hl : p.length = A.length) (hp : ∀ k, k < A.length → 0 ≤ p.getD k 0) (hm : ∀ k, k ∈ paid ↔ k < A.length ∧ p.getD k 0 = 0) (hn : paid.Nodup) : RI n A p r p paid [] :=
  ⟨hl, fun k _ => by simp [load], hp, hm, hn, fun _ _ h => by cases h⟩
theorem GrpOk.more {S : List Int} {y : Int} (G : GrpOk n A r paid S y) (add : List Nat) : GrpOk n A r (paid ++ add) S y :=
  ⟨G.pos, G.nr, G.one, let ⟨pre, h1, h2, h3⟩ := G.pre; ⟨pre, h1.trans (List.prefix_append _ _), h2, h3⟩⟩
theorem RI.grpOf (Wb : Web n A) (R : RI n A p r rest paid hs) (L : Least n r (PdE A rest) S) (hy : 0 < y) : GrpOk n A r paid S y := by
  obtain ⟨h1, h2, h3⟩ := L.within
  refine ⟨hy, L.nr, h1, paid, List.prefix_rfl, fun k hk => ?_, fun a b ha hb => (h3 a b ha hb).mono fun u v e => R.pd.mp e⟩
  cases q : ent A S k with
  | false => rfl
  | true =>
    obtain ⟨u, v, e, hv, nu⟩ := ent_iff.mp q
    exact absurd (h2 u v hv (R.pd.mpr ⟨k, hk, e⟩) (Wb.ok u v (List.mem_of_getElem? e)).1) nu
theorem RI.step (Wb : Web n A) (R : RI n A p r rest paid hs) (L : Least n r (PdE A rest) S) (hy : 0 < y) (hle : ∀ k, k < A.length → ent A S k = true → y ≤ rest.getD k 0) (hl : rest'.length = A.length)
    (hr : ∀ k, k < A.length → rest'.getD k 0 = if ent A S k = true then rest.getD k 0 - y else rest.getD k 0) {add : List Nat} (hm : ∀ k, k ∈ add ↔ k < A.length ∧ ent A S k = true ∧ rest.getD k 0 - y = 0) (hn : add.Nodup) :
    RI n A p r rest' (paid ++ add) (hs ++ [(S, y)]) where
  len := hl
  eq := fun k hk => by
    rw [hr k hk, load_snoc, R.eq k hk]
    split <;> omega
  nn := fun k hk => by
    rw [hr k hk]
    have h1 := R.nn k hk
    split
    · rename_i h
      have := hle k hk h
      omega
    · exact h1
  mem := fun k => by
    rw [List.mem_append, R.mem, hm]
    constructor
    · rintro (⟨h1, h2⟩ | ⟨h1, h2, h3⟩)
      · refine ⟨h1, ?_⟩
        rw [hr k h1]
        split
        · rename_i h
          have := hle k h1 h
          omega
        · exact h2
      · exact ⟨h1, by rw [hr k h1, if_pos h2]; exact h3⟩
    · rintro ⟨h1, h2⟩
      rw [hr k h1] at h2
      by_cases h : ent A S k = true
      · rw [if_pos h] at h2
        exact .inr ⟨h1, h, h2⟩
      · rw [if_neg h] at h2
        exact .inl ⟨h1, h2⟩
  nd := List.nodup_append.mpr ⟨R.nd, hn, fun a ha b hb e => by
    subst e
    obtain ⟨h1, h2⟩ := (R.mem a).mp ha
    obtain ⟨_, h3, h4⟩ := (hm a).mp hb
    have := hle a h1 h3
    omega⟩
  grp := fun S' y' h => by
    rcases List.mem_append.mp h with q | q
    · exact (R.grp S' y' q).more add
    · have e := List.mem_singleton.mp q
      cases e
      exact (R.grpOf Wb L hy).more add
/-- somebody leads into a group from outside, by an arc that is not yet paid -/
theorem RI.some_in (Wb : Web n A) (R : RI n A p r rest paid hs) (L : Least n r (PdE A rest) S) (hall : All n A (List.range A.length) r) : ∃ k, k < A.length ∧ ent A S k = true := by
  obtain ⟨⟨s, h1, h2, h3⟩, _⟩ := L.within
  rcases Rch.into (S := fun x => x ∈ S) L.nr (hall s h2 h3) with ⟨ns, _⟩ | ⟨u, v, ⟨k, hk, e⟩, nu, hv, _⟩
  · exact absurd h1 ns
  · exact ⟨k, List.mem_range.mp hk, ent_iff.mpr ⟨u, v, e, hv, nu⟩⟩
theorem RI.unpaid (Wb : Web n A) (R : RI n A p r rest paid hs) (L : Least n r (PdE A rest) S) {k : Nat} (hk : k < A.length) (he : ent A S k = true) : 0 < rest.getD k 0 := by
  have h0 := R.nn k hk
  by_cases q : rest.getD k 0 = 0
  · have g := (R.grpOf Wb L (y := 1) (by decide)).pre
    obtain ⟨u, v, e, hv, nu⟩ := ent_iff.mp he
    exact absurd (L.within.2.1 u v hv (R.pd.mpr ⟨k, (R.mem k).mpr ⟨hk, q⟩, e⟩) (Wb.ok u v (List.mem_of_getElem? e)).1) nu
  · omega
theorem RI.finish (R : RI n A p r rest paid hs) (h : ∀ x, 1 ≤ x → x ≤ n → r ∈ rset n (PdE A rest) x) : Raised n A p r paid hs where
  nd := R.nd
  full := fun k hk => by
    obtain ⟨h1, h2⟩ := (R.mem k).mp hk
    have := R.eq k h1
    exact ⟨h1, by omega⟩
  within := fun k hk => by
    have h1 := R.eq k hk
    have h2 := R.nn k hk
    omega
  grp := R.grp
  all := fun x h1 h2 => (mem_rset.mp (h x h1 h2)).2.mono fun u v e => R.pd.mp e
end
/-- the number of arcs not yet paid -/
def left (rest : List Int) : Nat := (rest.filter fun x => decide (x ≠ 0)).length
theorem left_falls : ∀ {rest rest' : List Int}, rest'.length = rest.length → (∀ k, k < rest.length → rest.getD k 0 = 0 → rest'.getD k 0 = 0) → (∃ k, k < rest.length ∧ rest.getD k 0 ≠ 0 ∧ rest'.getD k 0 = 0) → left rest' < left rest := by
  have le : ∀ {rest rest' : List Int}, rest'.length = rest.length → (∀ k, k < rest.length → rest.getD k 0 = 0 → rest'.getD k 0 = 0) → left rest' ≤ left rest := by
    intro rest
    induction rest with
    | nil =>
      intro rest' hl _
      rw [List.length_nil] at hl
      rw [List.eq_nil_of_length_eq_zero hl]
      exact Nat.le_refl _
    | cons a r ih =>
      intro rest' hl h
      cases rest' with
      | nil => rw [List.length_nil, List.length_cons] at hl; omega
      | cons b r' =>
        have q := ih (rest' := r') (by simpa using hl) fun k hk e => by
          have := h (k + 1) (by rw [List.length_cons]; omega) (by simpa using e)
          simpa using this
        have h0 := h 0 (by rw [List.length_cons]; omega)
        unfold left at q ⊢
        rw [List.filter_cons, List.filter_cons]
        by_cases ha : a = 0
        · have hb : b = 0 := by simpa using h0 (by simpa using ha)
          rw [if_neg (by simp [hb]), if_neg (by simp [ha])]
          exact q
        · rw [if_pos (show decide (a ≠ 0) = true by simp [ha])]
          split
          · rw [List.length_cons, List.length_cons]; omega
          · rw [List.length_cons]; omega
  intro rest
  induction rest with
  | nil => rintro rest' _ _ ⟨k, hk, _⟩; exact absurd hk (Nat.not_lt_zero _)
  | cons a r ih =>
    rintro rest' hl h ⟨k, hk, h1, h2⟩
    cases rest' with
    | nil => rw [List.length_nil, List.length_cons] at hl; omega
    | cons b r' =>
      have hl' : r'.length = r.length := by simpa using hl
      have hrest : ∀ k, k < r.length → r.getD k 0 = 0 → r'.getD k 0 = 0 := fun k hk e => by
        have := h (k + 1) (by rw [List.length_cons]; omega) (by simpa using e)
        simpa using this
      have h0 := h 0 (by rw [List.length_cons]; omega)
      cases k with
      | zero =>
        have q := le hl' hrest
        have ha : a ≠ 0 := by simpa using h1
        have hb : b = 0 := by simpa using h2
        unfold left at q ⊢
        rw [List.filter_cons, List.filter_cons, if_neg (by simp [hb]), if_pos (show decide (a ≠ 0) = true by simp [ha]), List.length_cons]
        omega
      | succ k =>
        have q := ih hl' hrest ⟨k, by simpa using hk, by simpa using h1, by simpa using h2⟩
        unfold left at q ⊢
        rw [List.filter_cons, List.filter_cons]
        by_cases ha : a = 0
        · have hb : b = 0 := by simpa using h0 (by simpa using ha)
          rw [if_neg (by simp [hb]), if_neg (by simp [ha])]
          exact q
        · rw [if_pos (show decide (a ≠ 0) = true by simp [ha])]
          split
          · rw [List.length_cons, List.length_cons]; omega
          · rw [List.length_cons]; omega
end K84
/-! Dropping arcs, putting them in order, what is said behind them, the best of all. -/
namespace K84
/-! ### dropping, from the last one paid -/
structure CI (n : Int) (A : Arcs) (r : Int) (paid : List Nat) (i : Nat) (kept : List Nat) : Prop where
  nd : kept.Nodup
  sub : ∀ k, k ∈ kept → k ∈ paid
  all : All n A kept r
  pre : ∀ k, k ∈ paid.take (paid.length - i) → k ∈ kept
  need : ∀ k, k ∈ kept → ¬ k ∈ paid.take (paid.length - i) → ∃ U : List Nat, (∀ x, x ∈ kept → x ∈ U) ∧ (∀ pre : List Nat, pre <+: paid → ¬ k ∈ pre → ∀ x, x ∈ pre → x ∈ U) ∧ ¬ All n A (without k U) r
section
variable {n r : Int} {A : Arcs} {paid kept : List Nat} {i : Nat}
theorem CI.begin (hn : paid.Nodup) (ha : All n A paid r) : CI n A r paid 0 paid where
  nd := hn
  sub := fun _ h => h
  all := ha
  pre := fun k h => List.mem_of_mem_take h
  need := fun k h hk => by
    rw [Nat.sub_zero, List.take_length] at hk
    exact absurd h hk
theorem nd_without {k : Nat} (h : kept.Nodup) : (without k kept).Nodup := h.sublist List.filter_sublist
/-- the k that is looked at in turn i, and the ones ahead of it -/
theorem CI.at_ (hn : paid.Nodup) {k : Nat} (hk : paid.reverse[i]? = some k) : i < paid.length ∧ paid.take (paid.length - i) = paid.take (paid.length - (i + 1)) ++ [k] ∧ ¬ k ∈ paid.take (paid.length - (i + 1)) ∧ ∀ pre : List Nat, pre <+: paid → ¬ k ∈ pre → ∀ x, x ∈ pre → x ∈ paid.take (paid.length - (i + 1)) := by
  have hi : i < paid.length := by
    have := (List.getElem?_eq_some_iff.mp hk).1
    simpa using this
  have e : paid[paid.length - 1 - i]? = some k := by
    rw [List.getElem?_reverse hi] at hk
    exact hk
  have e1 : paid.length - 1 - i = paid.length - (i + 1) := by omega
  rw [e1] at e
  have e2 : paid.length - i = paid.length - (i + 1) + 1 := by omega
  have tk : paid.take (paid.length - i) = paid.take (paid.length - (i + 1)) ++ [k] := by
    rw [e2, List.take_add_one, e]
    rfl
  have nk : ¬ k ∈ paid.take (paid.length - (i + 1)) := by
    have nd2 : (paid.take (paid.length - i)).Nodup := hn.sublist (List.take_sublist _ _)
    rw [tk] at nd2
    intro m
    exact (List.nodup_append.mp nd2).2.2 k m k (List.mem_singleton.mpr rfl) rfl
  refine ⟨hi, tk, nk, fun pre hp hkp x hx => ?_⟩
  have ep : pre = paid.take pre.length := (List.prefix_iff_eq_take.mp hp)
  have le : pre.length ≤ paid.length - (i + 1) := by
    rcases Nat.lt_or_ge (paid.length - (i + 1)) pre.length with q | q
    · exfalso
      apply hkp
      rw [ep]
      refine List.mem_of_getElem? (i := paid.length - (i + 1)) ?_
      rw [List.getElem?_take_of_lt q]
      exact e
    · exact q
  rw [ep] at hx
  have : (paid.take pre.length) <+: paid.take (paid.length - (i + 1)) := List.take_prefix_take_left le
  exact this.subset hx
theorem CI.drop (hn : paid.Nodup) (C : CI n A r paid i kept) {k : Nat} (hk : paid.reverse[i]? = some k) (ha : All n A (without k kept) r) : CI n A r paid (i + 1) (without k kept) := by
  obtain ⟨hi, tk, nk, _⟩ := CI.at_ hn hk
  refine ⟨nd_without C.nd, fun j hj => C.sub j (mem_without.mp hj).1, ha, fun j hj => mem_without.mpr ⟨C.pre j (by rw [tk]; exact List.mem_append_left _ hj), fun z => nk (by rw [← z]; exact hj)⟩, fun j hj hnj => ?_⟩
  obtain ⟨h1, h2⟩ := mem_without.mp hj
  obtain ⟨U, hU, hp, hno⟩ := C.need j h1 fun m => by
    rw [tk] at m
    rcases List.mem_append.mp m with q | q
    · exact hnj q
    · exact h2 (List.mem_singleton.mp q)
  exact ⟨U, fun x hx => hU x (mem_without.mp hx).1, hp, hno⟩
theorem CI.keep (hn : paid.Nodup) (C : CI n A r paid i kept) {k : Nat} (hk : paid.reverse[i]? = some k) (ha : ¬ All n A (without k kept) r) : CI n A r paid (i + 1) kept := by
  obtain ⟨hi, tk, nk, pk⟩ := CI.at_ hn hk
  refine ⟨C.nd, C.sub, C.all, fun j hj => C.pre j (by rw [tk]; exact List.mem_append_left _ hj), fun j hj hnj => ?_⟩
  by_cases e : j = k
  · subst e
    exact ⟨kept, fun x hx => hx, fun pre hp hj' x hx => C.pre x (by rw [tk]; exact List.mem_append_left _ (pk pre hp hj' x hx)), ha⟩
  · exact C.need j hj fun m => by
      rw [tk] at m
      rcases List.mem_append.mp m with q | q
      · exact hnj q
      · exact e (List.mem_singleton.mp q)
theorem CI.done (C : CI n A r paid paid.length kept) : Chosen n A r paid kept where
  nd := C.nd
  sub := C.sub
  all := C.all
  need := fun k hk => C.need k hk (by rw [Nat.sub_self, List.take_zero]; exact List.not_mem_nil)

/-! ### in order -/
/-- each arc of the log begins where the sign has come already -/
def Spr (A : Arcs) (r : Int) (L : List Nat) : Prop := ∀ (i k : Nat), L[i]? = some k → ∃ u v, A[k]? = some (u, v) ∧ (u = r ∨ ∃ j k' u', j < i ∧ L[j]? = some k' ∧ A[k']? = some (u', u))
theorem Spr.nil (A : Arcs) (r : Int) : Spr A r [] := fun i k h => by simp at h
theorem Spr.snoc {L : List Nat} (S : Spr A r L) {k : Nat} {u v : Int} (e : A[k]? = some (u, v)) (h : u = r ∨ ∃ k', k' ∈ L ∧ ∃ u', A[k']? = some (u', u)) : Spr A r (L ++ [k]) := fun i j hj => by
  rcases Nat.lt_or_ge i L.length with q | q
  · rw [List.getElem?_append_left q] at hj
    obtain ⟨a, b, e1, h1⟩ := S i j hj
    refine ⟨a, b, e1, h1.imp id ?_⟩
    rintro ⟨m, k', u', hm, h2, h3⟩
    exact ⟨m, k', u', hm, by rw [List.getElem?_append_left (by omega)]; exact h2, h3⟩
  · have hi : i = L.length := by
      have := (List.getElem?_eq_some_iff.mp hj).1
      rw [List.length_append, List.length_singleton] at this
      omega
    subst hi
    rw [List.getElem?_append_right (Nat.le_refl _), Nat.sub_self] at hj
    have ej : k = j := Option.some.inj hj
    subst ej
    refine ⟨u, v, e, h.imp id ?_⟩
    rintro ⟨k', hk, u', e'⟩
    obtain ⟨m, hm, e2⟩ := List.getElem_of_mem hk
    exact ⟨m, k', u', hm, by rw [List.getElem?_append_left hm, List.getElem?_eq_getElem hm, e2], e'⟩
/-- an arc that goes on -/
theorem goes_on {T : List Nat} {seen : List Int} {found rest : List Nat} (ha : All n A T r) (hr : r ∈ seen) (hp : (found ++ rest).Perm T) (hf : ∀ k u v, k ∈ found → A[k]? = some (u, v) → v ∈ seen) (hs : ∀ k, k ∈ T → ∃ u v, A[k]? = some (u, v) ∧ 1 ≤ u ∧ u ≤ n) (hne : rest ≠ []) :
    ∃ k u v, k ∈ rest ∧ A[k]? = some (u, v) ∧ u ∈ seen := by
  obtain ⟨k, hk⟩ := List.exists_mem_of_ne_nil rest hne
  obtain ⟨u, v, e, h1, h2⟩ := hs k (hp.mem_iff.mp (List.mem_append_right _ hk))
  by_cases hu : u ∈ seen
  · exact ⟨k, u, v, hk, e, hu⟩
  · rcases Rch.into (S := fun x => ¬ x ∈ seen) (fun z => z hr) (ha u h1 h2) with ⟨q, _⟩ | ⟨a, b, ⟨l, hl, el⟩, na, nb, _⟩
    · exact absurd hu q
    · rcases List.mem_append.mp (hp.mem_iff.mpr hl) with q | q
      · exact absurd (hf l a b q el) nb
      · exact ⟨l, a, b, q, el, Classical.not_not.mp na⟩

/-! ### what is said behind a log -/
def tkn (A : Arcs) (ms : List Int) (k : Nat) : List Int := match A[k]? with
  | some (u, v) => ms.set (v - 1).toNat (ms.getD (u - 1).toNat 0)
  | none => ms
def beh (A : Arcs) (ms : List Int) (L : List Nat) : List Int := L.foldl (tkn A) ms
theorem tkn_len (A : Arcs) (ms : List Int) (k : Nat) : (tkn A ms k).length = ms.length := by
  unfold tkn
  split
  · rw [List.length_set]
  · rfl
theorem beh_len (A : Arcs) : ∀ (L : List Nat) (ms : List Int), (beh A ms L).length = ms.length
  | [], _ => rfl
  | k :: r, ms => by
    show (beh A (tkn A ms k) r).length = ms.length
    rw [beh_len A r, tkn_len]
theorem beh_snoc (A : Arcs) (ms : List Int) (L : List Nat) (k : Nat) : beh A ms (L ++ [k]) = tkn A (beh A ms L) k := by
  unfold beh
  rw [List.foldl_append]
  rfl
/-- r's sign stands at x -/
def Says (ms : List Int) (r x : Int) : Prop := ms[(x - 1).toNat]? = some r
theorem tkn_says {ms : List Int} {k : Nat} {u v : Int} (e : A[k]? = some (u, v)) (hu : Says ms r u) (hv : (v - 1).toNat < ms.length) : Says (tkn A ms k) r v ∧ ∀ x, 1 ≤ x → Says ms r x → Says (tkn A ms k) r x := by
  have et : tkn A ms k = ms.set (v - 1).toNat r := by
    unfold tkn
    rw [e]
    show ms.set (v - 1).toNat (ms.getD (u - 1).toNat 0) = _
    rw [getD_some hu]
  rw [et]
  refine ⟨?_, fun x h1 hx => ?_⟩
  · show (ms.set (v - 1).toNat r)[(v - 1).toNat]? = some r
    rw [List.getElem?_set_self hv]
  · show (ms.set (v - 1).toNat r)[(x - 1).toNat]? = some r
    by_cases q : (v - 1).toNat = (x - 1).toNat
    · rw [← q, List.getElem?_set_self hv]
    · rw [List.getElem?_set_ne q]
      exact hx
theorem beh_upto (Wb : Web n A) (hr1 : 1 ≤ r) (hr2 : r ≤ n) {L : List Nat} (S : Spr A r L) : ∀ i, i ≤ L.length → Says (beh A (pplI n) (L.take i)) r r ∧ ∀ j k u v, j < i → L[j]? = some k → A[k]? = some (u, v) → Says (beh A (pplI n) (L.take i)) r v := by
  intro i
  induction i with
  | zero =>
    intro _
    refine ⟨?_, fun j k u v h => absurd h (Nat.not_lt_zero _)⟩
    show (pplI n)[(r - 1).toNat]? = some r
    rw [get_ppl (by omega)]
    congr 1
    omega
  | succ i ih =>
    intro hi
    obtain ⟨s0, s1⟩ := ih (by omega)
    have hk := List.getElem?_eq_getElem (show i < L.length by omega)
    generalize L[i]'(by omega) = k at hk
    obtain ⟨u, v, e, h⟩ := S i k hk
    have hu : Says (beh A (pplI n) (L.take i)) r u := by
      rcases h with q | ⟨j, k', u', hj, h2, h3⟩
      · rw [q]; exact s0
      · exact s1 j k' u' u hj h2 h3
    have hb := Wb.ok u v (List.mem_of_getElem? e)
    have hv : (v - 1).toNat < (beh A (pplI n) (L.take i)).length := by
      rw [beh_len, len_ppl]
      omega
    obtain ⟨t1, t2⟩ := tkn_says e hu hv
    have et : L.take (i + 1) = L.take i ++ [k] := by
      rw [List.take_add_one, hk]
      rfl
    rw [et, beh_snoc]
    refine ⟨t2 r hr1 s0, fun j k' u' v' hj hk' e' => ?_⟩
    by_cases q : j = i
    · rw [q, hk] at hk'
      have ek : k = k' := Option.some.inj hk'
      rw [← ek, e] at e'
      cases e'
      exact t1
    · exact t2 v' (Wb.ok u' v' (List.mem_of_getElem? e')).2.1.1 (s1 j k' u' v' (by omega) hk' e')
theorem beh_says (Wb : Web n A) (hr1 : 1 ≤ r) (hr2 : r ≤ n) (L : List Nat) (S : Spr A r L) : Says (beh A (pplI n) L) r r ∧ ∀ k u v, k ∈ L → A[k]? = some (u, v) → Says (beh A (pplI n) L) r v := by
  obtain ⟨h1, h2⟩ := beh_upto Wb hr1 hr2 S L.length (Nat.le_refl _)
  rw [List.take_length] at h1 h2
  refine ⟨h1, fun k u v hk e => ?_⟩
  obtain ⟨j, hj, ej⟩ := List.getElem_of_mem hk
  exact h2 j k u v hj (by rw [List.getElem?_eq_getElem hj, ej]) e
/-- behind the log all say r's sign -/
theorem beh_all (Wb : Web n A) (hr1 : 1 ≤ r) (hr2 : r ≤ n) {T L : List Nat} (ha : All n A T r) (hp : L.Perm T) (S : Spr A r L) : ∀ x, x ∈ beh A (pplI n) L → x = r := fun x hx => by
  obtain ⟨s0, s1⟩ := beh_says Wb hr1 hr2 L S
  obtain ⟨i, hi, e⟩ := List.getElem_of_mem hx
  rw [beh_len, len_ppl] at hi
  have said : Says (beh A (pplI n) L) r ((i : Int) + 1) := by
    have q := ha ((i : Int) + 1) (by omega) (by omega)
    cases q with
    | refl => exact s0
    | step _ e' =>
      obtain ⟨k, hk, ek⟩ := e'
      exact s1 k _ _ (hp.mem_iff.mpr hk) ek
  have q : (beh A (pplI n) L)[i]? = some r := by
    have e2 : ((i : Int) + 1 - 1).toNat = i := by omega
    have := said
    unfold Says at this
    rw [e2] at this
    exact this
  rw [List.getElem?_eq_getElem (by rw [beh_len, len_ppl]; exact hi), e] at q
  exact Option.some.inj q
end

/-! ### the best of all -/
/-- r wins -/
def Wins (n : Int) (A : Arcs) (r : Int) : Prop := ∀ v, 1 ≤ v → v ≤ n → Rch (fun a b => (a, b) ∈ A) r v
noncomputable def wins (n : Int) (A : Arcs) : List Int := (pplI n).filter fun r => tr (Wins n A r)
theorem mem_wins {n r : Int} {A : Arcs} : r ∈ wins n A ↔ (1 ≤ r ∧ r ≤ n) ∧ Wins n A r := by
  unfold wins
  rw [List.mem_filter, mem_ppl, tr_iff]
theorem Wins.all {n r : Int} {A : Arcs} (h : Wins n A r) : All n A (List.range A.length) r := fun v h1 h2 => (h v h1 h2).mono fun a b m => by
  obtain ⟨k, hk, e⟩ := List.getElem_of_mem m
  exact ⟨k, List.mem_range.mpr hk, by rw [List.getElem?_eq_getElem hk, e]⟩
theorem wins_up (n : Int) (A : Arcs) : (wins n A).Pairwise fun a b => a < b := by
  unfold wins
  refine List.Pairwise.filter _ ?_
  unfold pplI
  refine List.pairwise_map.mpr ?_
  exact List.pairwise_lt_range.imp fun h => by omega
/-- the least price, the least person, a log -/
structure Best (n : Int) (A : Arcs) (p : List Int) (W r : Int) (L : List Nat) : Prop where
  win : r ∈ wins n A
  opt : ∃ T, Opt n A p r W T ∧ L.Perm T
  spr : Spr A r L
  least : ∀ q, q ∈ wins n A → ∀ W' T', Opt n A p q W' T' → W ≤ W' ∧ (q < r → W < W')
section
variable {n W W' r r' : Int} {A : Arcs} {p : List Int} {L L' : List Nat}
theorem Best.uniq (B : Best n A p W r L) (B' : Best n A p W' r' L') : W = W' ∧ r = r' := by
  obtain ⟨T, o, _⟩ := B.opt
  obtain ⟨T', o', _⟩ := B'.opt
  obtain ⟨h1, h2⟩ := B.least r' B'.win W' T' o'
  obtain ⟨h3, h4⟩ := B'.least r B.win W T o
  have e : W = W' := by omega
  refine ⟨e, ?_⟩
  rcases Int.lt_trichotomy r r' with q | q | q
  · have := h4 q
    omega
  · exact q
  · have := h2 q
    omega
/-- prices that are all c more -/
theorem Best.more {q : List Int} {c : Int} (h : ∀ k, k < A.length → q.getD k 0 = p.getD k 0 + c) (B : Best n A p W r L) (B' : Best n A q W' r' L') (hex : ∀ s, s ∈ wins n A → ∀ z : List Int, z = p ∨ z = q → ∃ W T, Opt n A z s W T) : W' = W + c * (n - 1) ∧ r' = r := by
  obtain ⟨T, o, _⟩ := B.opt
  obtain ⟨T', o', _⟩ := B'.opt
  obtain ⟨Wa, Ta, oa⟩ := hex r' B'.win p (.inl rfl)
  obtain ⟨Wb, Tb, ob⟩ := hex r B.win q (.inr rfl)
  have e1 := oa.more h o'
  have e2 := o.more h ob
  obtain ⟨h1, h2⟩ := B.least r' B'.win Wa Ta oa
  obtain ⟨h3, h4⟩ := B'.least r B.win Wb Tb ob
  refine ⟨by omega, ?_⟩
  rcases Int.lt_trichotomy r r' with q | q | q
  · have := h4 q
    omega
  · exact q.symm
  · have := h2 q
    omega
/-- prices that are all c -/
theorem Best.equal {c : Int} (h : ∀ k, k < A.length → p.getD k 0 = c) (B : Best n A p W r L) (hex : ∀ s, s ∈ wins n A → ∃ W T, Opt n A p s W T) : W = c * (n - 1) ∧ (wins n A)[0]? = some r := by
  obtain ⟨T, o, _⟩ := B.opt
  have e := o.equal h
  refine ⟨e, ?_⟩
  have up := wins_up n A
  cases hw : wins n A with
  | nil =>
    have := B.win
    rw [hw] at this
    cases this
  | cons a l =>
    rw [hw] at up
    have m := B.win
    rw [hw] at m
    rcases List.mem_cons.mp m with q | q
    · rw [q]; rfl
    · have lt := (List.pairwise_cons.mp up).1 r q
      have ha : a ∈ wins n A := by rw [hw]; exact List.mem_cons_self
      obtain ⟨Wa, Ta, oa⟩ := hex a ha
      have ea := oa.equal h
      have := (B.least a ha Wa Ta oa).2 lt
      omega
end
end K84
/-! Quiet expressions: what an expression is worth, the heap only growing. For the elements of generator expressions. -/
namespace Q8
open PySem PySem.Spec PyProof.Rows L2

theorem ks_refl (s : Shared) : Keeps s s := ⟨s.heap, s.toks, rfl, fun _ _ e => e⟩
theorem ks_tok (s : Shared) (t : Nat) : Keeps s { s with toks := t } := ⟨s.heap, t, rfl, fun _ _ e => e⟩
theorem ks_trans {a b c : Shared} (x : Keeps a b) (y : Keeps b c) : Keeps a c := by
  obtain ⟨h1, t1, rfl, k1⟩ := x
  obtain ⟨h2, t2, rfl, k2⟩ := y
  exact ⟨h2, t2, rfl, fun b o e => k2 b o (k1 b o e)⟩
theorem ks_heap {a b : Shared} (x : Keeps a b) : ∀ c o, a.heap.get? c = some o → b.heap.get? c = some o := by
  obtain ⟨h1, t1, rfl, k1⟩ := x
  exact k1

/-- the module's facts at a state -/
structure Bs (K : PySem.W.Frag) (mg : Str → Option Value) (base : Heap) (s : Shared) : Prop where
  mod : L2.Mod K mg base
  bk : ∀ b o, base.get? b = some o → s.heap.get? b = some o
theorem Bs.to {K : PySem.W.Frag} {mg : Str → Option Value} {base : Heap} {s s' : Shared} (B : Bs K mg base s) (k : Keeps s s') : Bs K mg base s' :=
  ⟨B.mod, fun b o e => ks_heap k b o (B.bk b o e)⟩
/-- an env of the text's own: function scope, the module's names, the built-in ones -/
structure Ev (env : Env) : Prop where
  kind : env.scope.kind = .function
  glob : env.globals = mainGlobals
  blt : env.builtins = builtinsNs

/-- e is worth v from s on, quietly -/
def QE (P : Program) (w : World) (A : Around) (env : Env) (e : Expr) (s : Shared) (v : V) : Prop :=
  ∀ s1, Keeps s s1 → ∀ (Q : Value → Shared → Prop) (E : Value → Shared → Prop), (∀ u s2, RelV v u → Keeps s1 s2 → Q u s2) → wpAny (model P w) A (eval e env) Q E s1
def QA (P : Program) (w : World) (A : Around) (env : Env) (es : List Expr) (s : Shared) (vs : List V) : Prop :=
  ∀ pos s1, Keeps s s1 → ∀ (Q : List Value → Shared → Prop) (E : Value → Shared → Prop), (∀ us s2, Vals vs us → Keeps s1 s2 → Q us s2) → wpAny (model P w) A (spliced (backTo pos (starEach es env))) Q E s1

section
variable {P : Program} {w : World} {A : Around} {env : Env} {s : Shared} {K : PySem.W.Frag} {mg : Str → Option Value} {base : Heap} {e : Expr} {es : List Expr} {v : V} {vs : List V} {x : Str} {p pos : Pos}
theorem QE.to {s' : Shared} (h : QE P w A env e s v) (k : Keeps s s') : QE P w A env e s' v := fun s1 k1 Q E q => h s1 (ks_trans k k1) Q E q
theorem q_local {m : Str → Option Value} {u : Value} (N : Ev env) (hl : env.scope.names.lookup x = some NameKind.local) (hn : s.heap.Ns env.locals m) (hm : m x = some u) (r : RelV v u) (hd : (x == ("__debug__" : Str)) = false := by decide) : QE P w A env (.Name x p) s v := fun s1 k Q E q =>
  wpAny_Name (wpAny_loadName_local N.kind hl (hn.keeps (ks_heap k)) hm (q u s1 r (ks_refl s1))) hd
theorem q_free {c : Addr} {u : Value} (N : Ev env) (hl : env.scope.names.lookup x = some NameKind.free) (hc : env.cells.lookup x = some c) (hs : s.heap.IsCell c (some u)) (r : RelV v u) (hd : (x == ("__debug__" : Str)) = false := by decide) (hcd : (x == ("__classdict__" : Str)) = false := by decide) :
    QE P w A env (.Name x p) s v := fun s1 k Q E q => by
  obtain ⟨o, ho, hd1⟩ := hs
  exact wpAny_Name (wpAny_loadName_free N.kind hl hc ⟨o, ks_heap k _ _ ho, hd1⟩ (q u s1 r (ks_refl s1)) hcd) hd
theorem q_glob {u : Value} (B : Bs K mg base s) (N : Ev env) (hl : env.scope.names.lookup x = some NameKind.globalImplicit) (hm : mg x = some u) (r : RelV v u) (hd : (x == ("__debug__" : Str)) = false := by decide) : QE P w A env (.Name x p) s v := fun s1 k Q E q =>
  Calls.Name_function_global N.kind hl (Calls.loadGlobal_global (by rw [N.glob]; exact B.mod.glob.keeps (B.to k).bk) hm (q u s1 r (ks_refl s1))) hd
theorem q_blt {u : Value} (B : Bs K mg base s) (N : Ev env) (hl : env.scope.names.lookup x = some NameKind.globalImplicit) (hm : mg x = none) (hv : bootBuiltins x = some u) (hn : x ≠ "__name__" := by decide) (hd : (x == ("__debug__" : Str)) = false := by decide)
    {s1 : Shared} (k : Keeps s s1) {Q : Value → Shared → Prop} {E : Value → Shared → Prop} (q : Q u s1) : wpAny (model P w) A (eval (.Name x p) env) Q E s1 := by
  obtain ⟨mb, h1, h2⟩ := B.mod.blt
  exact Calls.Name_function_global N.kind hl (Calls.loadGlobal_builtin (by rw [N.glob]; exact B.mod.glob.keeps (B.to k).bk) hm (by rw [N.blt]; exact h1.keeps (B.to k).bk) ((h2 x hn).trans hv) q) hd
theorem q_ty {n : String} (B : Bs K mg base s) (N : Ev env) (hl : env.scope.names.lookup x = some NameKind.globalImplicit) (hm : mg x = none) (hv : bootBuiltins x = some (.type n)) (hn : x ≠ "__name__" := by decide) (hd : (x == ("__debug__" : Str)) = false := by decide) :
    QE P w A env (.Name x p) s (.ty n) := fun s1 k Q E q => q_blt B N hl hm hv hn hd k (q _ s1 rfl (ks_refl s1))
theorem q_int {i : Int} {j : Nat} : QE P w A env (.Constant (.int i) j p) s (.int i) := fun s1 k Q E q => wpAny_Constant_int (q _ _ ⟨_, rfl⟩ (ks_tok _ _))
theorem qa_nil : QA P w A env [] s [] := fun pos s1 k Q E q => args_nil (q [] s1 .nil (ks_refl s1))
theorem qa_cons (h : QE P w A env e s v) (t : QA P w A env es s vs) (hs : starEach (e :: es) env = (false, eval e env) :: starEach es env := by rfl) : QA P w A env (e :: es) s (v :: vs) := fun pos s1 k Q E q =>
  args_cons (h s1 k _ _ fun u s2 r k2 => t pos s2 (ks_trans k k2) _ _ fun us s3 rs k3 => q (u :: us) s3 (.cons r rs) (ks_trans k2 k3)) hs
/-- isinstance(e, T), e worth an int -/
theorem q_isi {T : Str} {n : String} {i : Int} {b : Bool} {p1 p2 : Pos} (B : Bs K mg base s) (N : Ev env) (hl : env.scope.names.lookup ("isinstance" : Str) = some NameKind.globalImplicit) (hm : mg "isinstance" = none) (he : QE P w A env e s (.int i)) (hT : QE P w A env (.Name T p2) s (.ty n))
    (hb : PySem.W.kitOne K (.type "int") (.type n) = some b) (hs : starEach [e, .Name T p2] env = (false, eval e env) :: starEach [.Name T p2] env := by rfl) (hs2 : starEach [.Name T p2] env = (false, eval (.Name T p2) env) :: starEach [] env := by rfl)
    (hpl : ((backTo pos (starEach [.Name T p2] env)).any fun x => x.fst) = false := by rfl) :
    QE P w A env (.Call (.Name "isinstance" p1) [e, .Name T p2] [] pos) s (.bl b) := fun s1 k Q E q => by
  have hv : bootBuiltins ("isinstance" : Str) = some (.builtin "isinstance") := by decide +kernel
  refine wpAny_Call_Name_kw (q_blt B N hl hm hv (by decide) (by decide) k ?_)
  refine PyProof.Rows.callWith_builtin1 (qa_cons he (qa_cons hT qa_nil hs2) hs pos s1 k _ _ fun us s2 r k2 => ?_) hs hpl
  obtain ⟨u1, u2, rfl, r1, r2⟩ := vals2 r
  obtain ⟨t, rfl⟩ := r1
  cases (show u2 = Value.type n from r2)
  have B2 := B.to (ks_trans k k2)
  exact PySem.W.kia_one PySem.W.kitx_int (B2.mod.kin.keeps B2.bk) True.intro hb (fun z => nomatch z) fun tk => q _ _ rfl (ks_trans k2 (ks_tok _ _))
theorem q_not {b : Bool} (h : QE P w A env e s (.bl b)) : QE P w A env (.UnaryOp .Not e pos) s (.bl (!b)) := fun s1 k Q E q =>
  UnaryOp_ (h s1 k _ _ fun u s2 r k2 => by
    cases (show u = Value.bool b from r)
    exact not_of (wpAny_truthy_bool (q _ _ rfl k2)))
theorem q_one {op : BoolOp} (h : QE P w A env e s v) : QE P w A env (.BoolOp op [e] pos) s v := fun s1 k Q E q => BoolOp_one (h s1 k Q E q)
theorem q_and {e2 : Expr} {a b : Bool} (h : QE P w A env e s (.bl a)) (t : QE P w A env (.BoolOp .And (e2 :: es) pos) s (.bl b)) : QE P w A env (.BoolOp .And (e :: e2 :: es) pos) s (.bl (a && b)) := fun s1 k Q E q =>
  BoolOp_and (h s1 k _ _ fun u s2 r k2 => by
    cases (show u = Value.bool a from r)
    refine wpAny_truthy_bool ?_
    cases a with
    | false => exact ite_ff (q _ _ rfl k2)
    | true => exact ite_tt (t s2 (ks_trans k k2) _ _ fun u3 s3 r3 k3 => q u3 s3 r3 (ks_trans k2 k3)))
/-- a <= b <= c -/
theorem q_le2 {e2 e3 : Expr} {a b c : Int} (ha : QE P w A env e s (.int a)) (hb : QE P w A env e2 s (.int b)) (hc : QE P w A env e3 s (.int c)) (hm : lastMarks [CmpOp.LtE, CmpOp.LtE] [e2, e3] = false := by with_unfolding_all rfl) :
    QE P w A env (.Compare e [.LtE, .LtE] [e2, e3] pos) s (.bl (decide (a ≤ b) && decide (b ≤ c))) := fun s1 k Q E q =>
  Compare_chain (ha s1 k _ _ fun u s2 r k2 => chain_link (hb s2 (ks_trans k k2) _ _ fun u3 s3 r3 k3 => by
    obtain ⟨t, rfl⟩ := r
    obtain ⟨t3, rfl⟩ := r3
    refine le_int (wpAny_truthy_bool ?_)
    cases hd : decide (a ≤ b) with
    | false =>
      refine ite_ff ?_
      rw [hd] at q
      exact q _ _ rfl (ks_trans k2 k3)
    | true =>
      refine ite_tt (chain_last (hc s3 (ks_trans k (ks_trans k2 k3)) _ _ fun u4 s4 r4 k4 => ?_))
      obtain ⟨t4, rfl⟩ := r4
      rw [hd] at q
      exact le_int (q _ _ rfl (ks_trans (ks_trans k2 k3) k4)))) hm
theorem q_op {op : Operator} {e2 : Expr} {a b c : Int} (ha : QE P w A env e s (.int a)) (hb : QE P w A env e2 s (.int b))
    (rule : ∀ (t u : Tok) (Q : Value → Shared → Prop) (E : Value → Shared → Prop) (s : Shared), (∀ t' k, Q (.int c t') { s with toks := k }) → wpAny (model P w) A (binaryOp op (.int a t) (.int b u)) Q E s) : QE P w A env (.BinOp e op e2 pos) s (.int c) := fun s1 k Q E q =>
  wpAny_BinOp (ha s1 k _ _ fun u s2 r k2 => hb s2 (ks_trans k k2) _ _ fun u3 s3 r3 k3 => by
    obtain ⟨t, rfl⟩ := r
    obtain ⟨t3, rfl⟩ := r3
    exact rule t t3 _ _ s3 fun t' kk => q _ _ ⟨t', rfl⟩ (ks_trans (ks_trans k2 k3) (ks_tok _ _)))
theorem q_sub {e2 : Expr} {a b : Int} (ha : QE P w A env e s (.int a)) (hb : QE P w A env e2 s (.int b)) : QE P w A env (.BinOp e .Sub e2 pos) s (.int (a - b)) :=
  q_op ha hb fun t u Q E s h => sub_int (h _ _)
/-- two ints compared by == -/
theorem q_eq {e2 : Expr} {a b : Int} (ha : QE P w A env e s (.int a)) (hb : QE P w A env e2 s (.int b)) (hm : behindInMarks .Eq e2 = false := by first | exact nobehind _ (by decide) (by decide) | rfl) : QE P w A env (.Compare e [.Eq] [e2] pos) s (.bl (decide (a = b))) := fun s1 k Q E q =>
  wpAny_Compare1 (ha s1 k _ _ fun u s2 r k2 => hb s2 (ks_trans k k2) _ _ fun u3 s3 r3 k3 => by
    obtain ⟨t, rfl⟩ := r
    obtain ⟨t3, rfl⟩ := r3
    refine eq_int ?_
    rw [Bool.beq_eq_decide_eq]
    exact q _ _ rfl (ks_trans k2 k3)) hm

/-- a def that is quiet at these arguments -/
def QF (P : Program) (w : World) (K : PySem.W.Frag) (mg : Str → Option Value) (base : Heap) (d : Nat) (f : Addr) (vs : List V) (v : V) : Prop :=
  ∀ (A : Around) (s : Shared) (us : List Value), A.handled = none → A.depth + d < recursionLimit → Bs K mg base s → Vals vs us → ∀ (Q : Value → Shared → Prop) (E : Value → Shared → Prop), (∀ u s2, RelV v u → Keeps s s2 → Q u s2) → wpAny (model P w) A (call (.ref f) us) Q E s
theorem q_call {d : Nat} {f : Addr} {p1 : Pos} (B : Bs K mg base s) (N : Ev env) (hl : env.scope.names.lookup x = some NameKind.globalImplicit) (hm : mg x = some (.ref f)) (hk : PySem.W.keepIn K (.ref f) = true) (hh : A.handled = none) (hd : A.depth + d < recursionLimit)
    (F : QF P w K mg base d f (v :: vs) (.bl true)) (ha : QA P w A env (e :: es) s (v :: vs)) (hdb : (x == ("__debug__" : Str)) = false := by decide) (he : starEach (e :: es) env = (false, eval e env) :: starEach es env := by rfl) (hpl : (backTo pos (starEach es env)).any (·.1) = false := by rfl) :
    QE P w A env (.Call (.Name x p1) (e :: es) [] pos) s (.bl true) := fun s1 k Q E q => by
  have B1 := B.to k
  refine wpAny_Call_Name_kw (q_glob (v := .ref f) B N hl hm rfl hdb s1 k _ _ fun u s2 r k2 => ?_)
  cases (show u = Value.ref f from r)
  refine PySem.W.callWith_K (h₀ := base) B.mod.kin hk (ha pos s2 (ks_trans k k2) _ _ fun us s3 r3 k3 => ?_) he hpl
  have B3 := B1.to (ks_trans k2 k3)
  exact ⟨B3.mod.kin.keeps B3.bk, F A s3 us hh hd B3 r3 _ _ fun u s4 r4 k4 => q u s4 r4 (ks_trans (ks_trans k2 k3) k4)⟩
end
end Q8
/-! A generator expression whose element may call defs: the element is run in an around whose depth is known. -/
namespace G8
open PySem PySem.Spec PyProof.Rows L2 Q8

/-- an around with room: depth and C stack -/
structure Fit (d : Nat × Nat) (B : Around) : Prop where
  hd : B.handled = none
  dp : B.depth ≤ d.1
  un : B.units ≤ d.2
/-- the element, quiet where there is room -/
structure EltQ (P : Program) (w : World) (cenv : Env) (d : Nat × Nat) (x : Str) (elt : Expr) (fp wr : List Addr) (Pv Fv : Nat → Value → Prop) (href : Heap) : Prop where
  run : ∀ (B : Around) (E : Value → Shared → Prop) (i : Nat) (v : Value) (t : Shared) (m : Str → Option Value), Fit d B → Pv i v → t.heap.Ns cenv.locals m → m x = some v →
    (∀ b, b ∈ fp → b ∉ wr → ∀ o, href.get? b = some o → t.heap.get? b = some o) → wpAny (model P w) B (eval elt cenv) (fun y t' => Fv i y ∧ Keeps t t') E t

abbrev gexp (elt iter : Expr) (x : Str) (px : Pos) (scope : Scope) (pos : Pos) : Expr := .GeneratorExp elt [⟨.Name x px, iter, [], 0⟩] scope pos
abbrev loopC (elt iter : Expr) (x : Str) (px : Pos) (scope : Scope) (pos : Pos) (I : Addr) (cenv : Env) : Code := .compLoop (gexp elt iter x px scope pos) 0 (.ref I) .none cenv
abbrev startC (elt iter : Expr) (x : Str) (px : Pos) (scope : Scope) (pos : Pos) (I : Addr) (cenv : Env) : Code := .compStart (gexp elt iter x px scope pos) 0 (.ref I) .none cenv
abbrev yes : Nat → Bool := fun _ => true
theorem yes_len {n i : Nat} : (passing yes n i).length = n - i := by
  unfold passing
  rw [List.filter_eq_self.mpr (fun _ _ => rfl), List.length_drop, List.length_range]

section
variable {P : Program} {w : World} {A : Around} {elt iter : Expr} {x : Str} {px pos : Pos} {scope : Scope} {I : Addr} {fp wr : List Addr} {n : Nat} {d : Nat × Nat} {Pv Fv : Nat → Value → Prop} {St : Nat → Heap → Prop} {cenv : Env} {href : Heap}
/-- room for the loop's own code -/
structure Fit0 (d : Nat × Nat) (A : Around) : Prop where
  hd : A.handled = none
  dp : A.depth + 1 ≤ d.1
  un : A.units + 8 ≤ d.2
theorem Fit0.in1 (h : Fit0 d A) {u : Nat} (hu : A.units + 9 ≤ u) : Fit0 (d.1, u) A.in1 := ⟨h.hd, h.dp, by show A.units + 1 + 8 ≤ u; omega⟩
theorem loop_fit (h : Fit0 d A) : Fit d (A.over (loopC elt iter x px scope pos I cenv) []) := by
  refine ⟨h.hd, ?_, ?_⟩
  rotate_left
  · have h3 : Code.cUnits (loopC elt iter x px scope pos I cenv) ≤ 8 := by
      first
        | (show 0 ≤ 8; decide)
        | (show 1 ≤ 8; decide)
        | (show 2 ≤ 8; decide)
        | (show 3 ≤ 8; decide)
    have h4 := h.un
    show A.units + unitsOf [] + Code.cUnits (loopC elt iter x px scope pos I cenv) ≤ d.2
    have h5 : unitsOf [] = 0 := rfl
    omega
  show A.depth + frameCount [] + Code.weight (loopC elt iter x px scope pos I cenv) ≤ d.1
  have h6 := h.dp
  have h1 : frameCount [] = 0 := rfl
  have h2 : Code.weight (loopC elt iter x px scope pos I cenv) ≤ 1 := by
    first
      | exact Nat.le_refl _
      | (show 0 ≤ 1; decide)
      | (simp [Code.weight, Code.frames, Code.isFrame, Code.isCreation, Code.isGuard, Code.isCaller])
  omega
abbrev RE (C : Addr) (wr : List Addr) : GenEnd := fun n s₀ r s₁ => r = .ok .next ∧ (n = 0 ∧ GenSince C wr s₀ s₁)
/-- one turn after another -/
theorem seg_loop (hf : Fit0 d A) (W : ∀ B : Around, B.handled = none → Walks P w B I fp wr n Pv St) (hx : cenv.kindOf x = some .local)
    (hk : (cenv.scope.kind == .class || (cenv.scope.kind == .module && cenv.locals != cenv.globals)) = false) (hco : cenv.scope.isCoroutine = false) (hC : cenv.locals ∉ fp) (hq : EltQ P w cenv d x elt fp wr Pv Fv href) :
    ∀ (k i : Nat) (s₀ s : Shared) (m : Str → Option Value), n - i = k → i ≤ n → St i s.heap → s.heap.Ns cenv.locals m → GenSince cenv.locals wr s₀ s → (∀ b, b ∈ fp → b ∉ wr → ∀ o, href.get? b = some o → s.heap.get? b = some o) →
      Seg (model P w) A (RE cenv.locals wr) (genProto cenv.locals fp wr yes n Fv) (passing yes n i).length s₀ (loopC elt iter x px scope pos I cenv) ((model P w).den (loopC elt iter x px scope pos I cenv)) [] s := by
  have hA := hf.hd
  have dO := loop_fit (elt := elt) (iter := iter) (x := x) (px := px) (scope := scope) (pos := pos) (I := I) (cenv := cenv) hf
  have hO := dO.hd
  have hCw : cenv.locals ∉ wr := fun z => hC ((W A hA).sub _ z)
  intro k
  induction k with
  | zero =>
    intro i s₀ s m hk0 hi st hn since old
    obtain rfl : i = n := by omega
    show Seg _ A _ _ _ s₀ _ ((compTurn (gexp elt iter x px scope pos) 0 (.ref I) .none cenv).onRaise (leaving cenv)) [] s
    rw [compTurn_gen, Sem.onRaise_eq_wrap]
    refine seg_bind_wrap (wpAny_standAt (seg_bind_wrap ((W _ hO).done s _ _ st fun h' tk keep => ?_)))
    refine seg_end (.ok .next) ⟨rfl, ?_, since.step fun b o _ hw e => keep b o hw e⟩
    rw [passing_end]
    rfl
  | succ k ih =>
    intro i s₀ s m hk0 hi st hn since old
    have lt : i < n := by omega
    show Seg _ A _ _ _ s₀ _ ((compTurn (gexp elt iter x px scope pos) 0 (.ref I) .none cenv).onRaise (leaving cenv)) [] s
    rw [compTurn_gen, Sem.onRaise_eq_wrap]
    refine seg_bind_wrap (wpAny_standAt (seg_bind_wrap ((W _ hO).item i s _ _ lt st fun v h1 t1 pv st1 k1 => ?_)))
    refine seg_bind_wrap (wpAny_of_eq (rfl : letOwnedTupleGo (.Name x px) (.ref I) v = pure ()) ?_)
    refine seg_bind_wrap (wpAny_assign_Name (wpAny_storeName_local hx (hn.at' fun o e => k1 _ o hCw e) (fun h2 n2 b2 => ?_) hk))
    have up : ∀ b o, b ≠ cenv.locals → b ∉ wr → s.heap.get? b = some o → h2.get? b = some o := fun b o z1 z2 e => b2.extBut b o z1 (k1 b o z2 e)
    have st2 : St (i + 1) h2 := (W A hA).frame _ _ _ st1 fun b hb o e => b2.extBut b o (fun z => hC (z ▸ hb)) e
    have old2 : ∀ b, b ∈ fp → b ∉ wr → ∀ o, href.get? b = some o → h2.get? b = some o := fun b hb hw o e => up b o (fun z => hC (z ▸ hb)) hw (old b hb hw o e)
    rw [passing_true lt rfl, List.length_cons]
    have hy : ∀ v, yieldOut cenv v = yieldValue v := fun v => by simp only [yieldOut, hco, Bool.false_eq_true, if_false]
    simp only [List.forIn_nil, pure_bind, if_true, hy]
    rw [Sem.bind_eq_wrap', Sem.bind_eq_wrap', Sem.wrap_wrap, Sem.wrap_wrap]
    refine seg_wrap (wpAny_mono (hq.run _ _ i v _ _ dO pv n2 (by simp) old2) (fun y s3 h3 => ?_) fun _ _ e => e)
    obtain ⟨fy, h3, t3, rfl, k3⟩ := h3
    refine seg_at (seg_yield rfl rfl rfl ⟨⟨i, passing_here lt rfl, fy⟩, since.step fun b o z1 z2 e => k3 b o (up b o z1 z2 e), fun s'' al => ?_⟩)
    refine seg_again rfl (ih (i + 1) s'' s'' _ (by omega) lt ((W A hA).frame _ _ _ st2 fun b hb o e => al b (List.mem_cons_of_mem _ hb) o (k3 b o e)) (n2.at' fun o e => al _ (List.mem_cons_self ..) o (k3 _ o e)) (GenSince.refl _ _ _)
      fun b hb hw o e => al b (List.mem_cons_of_mem _ hb) o (k3 b o (old2 b hb hw o e)))
theorem seg_begin (hf : Fit0 d A) (W : ∀ B : Around, B.handled = none → Walks P w B I fp wr n Pv St) (hx : cenv.kindOf x = some .local)
    (hk : (cenv.scope.kind == .class || (cenv.scope.kind == .module && cenv.locals != cenv.globals)) = false) (hco : cenv.scope.isCoroutine = false) (hC : cenv.locals ∉ fp) (hq : EltQ P w cenv d x elt fp wr Pv Fv href)
    (s₀ s : Shared) (m : Str → Option Value) (st : St 0 s.heap) (hn : s.heap.Ns cenv.locals m) (since : GenSince cenv.locals wr s₀ s) (old : ∀ b, b ∈ fp → b ∉ wr → ∀ o, href.get? b = some o → s.heap.get? b = some o) :
    Seg (model P w) A (RE cenv.locals wr) (genProto cenv.locals fp wr yes n Fv) (passing yes n 0).length s₀ (startC elt iter x px scope pos I cenv) ((model P w).den (startC elt iter x px scope pos I cenv)) [] s := by
  have hA := hf.hd
  have hO : (A.over (startC elt iter x px scope pos I cenv) []).handled = none := hA
  have loop := seg_loop (iter := iter) (px := px) (scope := scope) (pos := pos) hf W hx hk hco hC hq n 0 s₀ s m (Nat.sub_zero _) (Nat.zero_le _) st hn since old
  show Seg _ A _ _ _ s₀ _ ((compStart (gexp elt iter x px scope pos) 0 (.ref I) .none cenv).onRaise (leaving cenv)) [] s
  unfold compStart
  rw [Sem.onRaise_eq_wrap]
  show Seg _ A _ _ _ s₀ _ ((ask >>= _).wrap _ _ _ _) [] s
  refine seg_bind_wrap (wpAny_askSetting ?_)
  split
  · exact seg_again rfl loop
  · refine seg_bind_wrap (wpAny_rule ?_)
    show Seg _ A _ _ _ s₀ _ ((standAt iter.pos >>= _).wrap _ _ _ _) [] s
    exact seg_bind_wrap (wpAny_standAt (seg_bind_wrap ((W _ hO).self 0 s _ _ st (seg_again rfl loop))))
theorem gen_fresh {a : Addr} {g : Nat} {s : Shared} {m : Str → Option Value} (hf : Fit0 d A.in1) (W : ∀ B : Around, B.handled = none → Walks P w B I fp wr n Pv St) (hx : cenv.kindOf x = some .local)
    (hk : (cenv.scope.kind == .class || (cenv.scope.kind == .module && cenv.locals != cenv.globals)) = false) (hco : cenv.scope.isCoroutine = false) (hC : cenv.locals ∉ fp) (hq : EltQ P w cenv d x elt fp wr Pv Fv s.heap)
    (hg : s.heap.IsGen a g) (hgs : s.gens[g]? = some (.fresh (startC elt iter x px scope pos I cenv))) (st : St 0 s.heap) (hn : s.heap.Ns cenv.locals m) (hl : s.heap.NoLimit) : GenAt P w A a g cenv.locals fp wr yes n Fv 0 s :=
  ⟨hg, hl, _, hgs, fun s'' al => ⟨rfl, seg_begin (A := A.in1) hf W hx hk hco hC hq s'' s'' m ((W A hf.hd).frame _ _ _ st fun b hb o e => al b (List.mem_cons_of_mem _ hb) o e) (hn.at' fun o e => al _ (List.mem_cons_self ..) o e)
    (GenSince.refl _ _ _) fun b hb _ o e => al b (List.mem_cons_of_mem _ hb) o e⟩⟩
end
end G8
/-! all and sum of a generator expression over a tuple or over a dict's tuple keys, as rules. -/
namespace G8
open PySem PySem.Spec PyProof.Rows L2 Q8

/-- what is tracked, without the table -/
def off (H : Hp) (T : Addr) : Hp := fun b => if b = T then none else H b
theorem off_ne {H : Hp} {T b : Addr} (h : b ≠ T) : off H T b = H b := if_neg h
theorem hok_off {P : Program} {w : World} {H : Hp} {h h' : Heap} {T : Addr} (ok : HOk P w H h) (hT : ∃ ps, H T = some (.tbl ps)) (k : ∀ b o, b ≠ T → h.get? b = some o → h'.get? b = some o) : HOk P w (off H T) h' := fun a o e => by
  obtain ⟨ps, hT⟩ := hT
  have na : ∀ b u, H b = some u → (∀ q, u ≠ .tbl q) → b ≠ T := fun b u q n z => by
    rw [z, hT] at q
    exact n ps (Option.some.inj q).symm
  by_cases ha : a = T
  · unfold off at e
    rw [if_pos ha] at e
    cases e
  · rw [off_ne ha] at e
    refine (ok a o e).stay (fun b u hb q => k b u ?_ q) (fun b q => ?_) fun b xs q => ?_
    · rcases hb with z | z
      · rw [z]; exact ha
      · exact na b _ z fun q z => by cases z
    · rw [off_ne (na b _ q fun q z => by cases z)]; exact q
    · rw [off_ne (na b _ q fun q z => by cases z)]; exact q

/-- what is walked: n items, told by Pv -/
structure Src (X : Cx) (v : V) (H : Hp) (n : Nat) (Pv : Nat → V → Prop) : Prop where
  it : ∀ (pins : List (Addr × Obj)) (σ : L2.St) (s : Shared) (u : Value), Inv X pins σ H s → RelV v u → ∃ (o : Obj) (a : Addr) (St : Nat → Heap → Prop), a < s.heap.objs.size ∧ (∃ u, H a = some u ∧ ∀ q, u ≠ HO.tbl q) ∧
    (∀ (A : Around) (Q : Value → Shared → Prop) (E : Value → Shared → Prop), Q (.ref s.heap.objs.size) { s with heap := s.heap.push o } → wpAny (model X.prog X.w) A (pyIter u) Q E s) ∧
    (∀ B : Around, B.handled = none → Walks X.prog X.w B s.heap.objs.size [s.heap.objs.size, a] [s.heap.objs.size] n (fun i u => ∃ x, Pv i x ∧ RelV x u) St) ∧ St 0 (s.heap.push o)
theorem walks_map {P : Program} {w : World} {A : Around} {I : Addr} {fp wr : List Addr} {n : Nat} {Pa Pb : Nat → Value → Prop} {St : Nat → Heap → Prop} (W : Walks P w A I fp wr n Pa St) (h : ∀ i u, Pa i u → Pb i u) : Walks P w A I fp wr n Pb St where
  sub := W.sub
  frame := W.frame
  item := fun i s Q E hi st hQ => W.item i s Q E hi st fun v h' tk hp => hQ v h' tk (h i v hp)
  done := W.done
  self := W.self
theorem src_tup {X : Cx} {H : Hp} {a : Addr} {xs : List V} (ha : H a = some (.tup xs)) : Src X (.ref a) H xs.length (fun i x => xs[i]? = some x) where
  it := fun pins σ s u I r => by
    cases (show u = Value.ref a from r)
    obtain ⟨its, rv, pl, hz⟩ := I.tuple (SqT.of ha)
    have lt : a < s.heap.objs.size := pl.lt
    have hsz : its.toArray.size = xs.length := by rw [List.size_toArray, rv.length]
    refine ⟨_, a, fun i h => h.IsTupleIter s.heap.objs.size a i ∧ h.IsTuple a its.toArray, lt, ⟨_, ha, fun q z => nomatch z⟩, fun A Q E q => wpAny_pyIter_tuple pl q, fun B hB => ?_, ⟨⟨_, Heap.get?_push_size _ rfl, rfl, rfl⟩, ?_⟩⟩
    · have W := Walks.tuple (prog := X.prog) (w := X.w) hB s.heap.objs.size a (Nat.ne_of_lt lt) its.toArray
      rw [hsz] at W
      refine walks_map W fun i u hu => ?_
      have hu' : its[i]? = some u := by simpa using hu
      have hi : i < xs.length := by
        have := (List.getElem?_eq_some_iff.mp hu').1
        rw [rv.length]; exact this
      obtain ⟨u', e', r'⟩ := rv.get (List.getElem?_eq_getElem hi)
      rw [hu'] at e'
      cases e'
      exact ⟨xs[i], List.getElem?_eq_getElem hi, r'⟩
    · obtain ⟨o, e, c⟩ := pl
      exact ⟨o, Heap.get?_push_of_some _ e, c⟩
theorem src_dT {X : Cx} {H : Hp} {d : Addr} {kvs : List (List Key × V)} (hd : H d = some (.dT kvs)) : Src X (.ref d) H kvs.length (fun i x => ∃ k v q, kvs[i]? = some (k, v) ∧ x = .ref q ∧ H q = some (.tup (k.map kV))) where
  it := fun pins σ s u I r => by
    cases (show u = Value.ref d from r)
    obtain ⟨z, hs, xs, pr, o, es, ep, ho, hx, hdt, he, hn⟩ := (show ObjOk X.prog X.w H s.heap d (.dT kvs) from I.hok d _ hd)
    have lt : d < s.heap.objs.size := Heap.lt_size ho
    have l1 : es.size = kvs.length := by
      have a1 : es.size = xs.length := size_of_entries he
      have a2 : kvs.length = xs.length := Paired.length pr
      omega
    refine ⟨_, d, fun i h => h.IsKeyIter s.heap.objs.size d i kvs.length ep ∧ h.get? d = some o, lt, ⟨_, hd, fun q z => nomatch z⟩, fun A Q E q => iter_keys hs ho hx hdt q, fun B hB => ?_, ⟨by rw [← l1]; exact ⟨_, Heap.get?_push_size _ rfl, rfl, rfl⟩, Heap.get?_push_of_some _ ho⟩⟩
    have W := walks_raw (prog := X.prog) (w := X.w) hB s.heap.objs.size d (Nat.ne_of_lt lt) hdt
    rw [l1] at W
    refine walks_map W fun i u hu => ?_
    obtain ⟨en, hen, rfl⟩ := hu
    have hi : i < kvs.length := by
      have := (Array.getElem?_eq_some_iff.mp hen).1
      omega
    obtain ⟨b, hb, e1, e2, _⟩ := paired_get pr (List.getElem?_eq_getElem hi)
    have q := entry_at he i
    rw [hb] at q
    rw [hen] at q
    have e3 : en = entryOfKey (tupleKind (mixKind X.prog X.w)) b := Option.some.inj q
    refine ⟨.ref b.2.1, ⟨kvs[i].1, kvs[i].2, b.2.1, List.getElem?_eq_getElem hi, rfl, e2⟩, ?_⟩
    rw [e3]
    rfl

theorem clo_lookup {cells : List (Str × Addr)} {names : List (Str × NameKind)} {y : Str} (h : (y, NameKind.free) ∈ names) : (cloFrom cells names []).lookup y = some ((cells.lookup y).getD 0) := by
  have m := cloFrom_has (cells := cells) (acc := []) h
  cases q : (cloFrom cells names []).lookup y with
  | none =>
    have : ∀ l : List (Str × Addr), l.lookup y = none → ∀ p ∈ l, p.1 ≠ y := by
      intro l
      induction l with
      | nil => intro _ p hp; cases hp
      | cons a r ih =>
        intro hl p hp
        rw [List.lookup_cons] at hl
        by_cases e : y == a.1
        · rw [e] at hl; cases hl
        · have e' : (y == a.1) = false := by simpa using e
          rw [e'] at hl
          rcases List.mem_cons.mp hp with z | z
          · rw [z]; intro z2; rw [z2] at e'; simp at e'
          · exact ih hl p z
    exact absurd rfl (this _ q _ m)
  | some v =>
    have m2 := PySem.mem_of_lookup q
    rcases cloFrom_mem m2 with z | ⟨_, z⟩
    · cases z
    · rw [z]

/-- where an element is run -/
structure EC (X : Cx) (H : Hp) (T : Addr) (σ : L2.St) (scope : Scope) (x : Str) (B : Around) (cenv : Env) (t : Shared) (u : Value) : Prop where
  fit : Fit (X.A.depth + 1, X.A.units + 16) B
  env : Q8.Ev cenv
  sc : cenv.scope = scope
  bs : Bs X.K X.mg X.base t
  hok : HOk X.prog X.w (off H T) t.heap
  cap : ∀ (j : Nat) (y : Str) (v : V), X.N[j]? = some y → σ[j]? = some (some v) → X.env.scope.names.lookup y = some NameKind.cell → (y, NameKind.free) ∈ scope.names → ∃ c u, cenv.cells.lookup y = some c ∧ t.heap.IsCell c (some u) ∧ RelV v u
  loc : ∃ m, t.heap.Ns cenv.locals m ∧ m x = some u
def EltX (X : Cx) (H : Hp) (T : Addr) (σ : L2.St) (scope : Scope) (x : Str) (elt : Expr) (Pv Fv : Nat → V → Prop) : Prop :=
  ∀ (B : Around) (cenv : Env) (t : Shared) (i : Nat) (v : V) (u : Value), EC X H T σ scope x B cenv t u → Pv i v → RelV v u → ∃ y, Fv i y ∧ QE X.prog X.w B cenv elt t y

/-- the generator at g, ready to be walked -/
def ReadyG (X : Cx) (pins : List (Addr × Obj)) (σ : L2.St) (H1 : Hp) (T : Addr) (n : Nat) (Fv : Nat → V → Prop) (g : Addr) (s5 : Shared) : Prop :=
  ∃ (fp wr : List Addr) (G : Array GenState → Array GenState → Prop) (F : Nat → Value → Prop) (St : Nat → Shared → Prop), WalksS X.prog X.w X.A.in1 g fp wr G n F St ∧ St 0 s5 ∧ (∀ i u, F i u → ∃ y, Fv i y ∧ RelV y u) ∧ (∀ b, b ∈ fp → b < s5.heap.objs.size) ∧
    ∀ s', Moved wr G s5 s' → ∃ H2, GxR.Tabbed T H1 H2 ∧ Inv X pins σ H2 s'

section
variable {X : Cx} {pins : List (Addr × Obj)} {σ : L2.St} {H : Hp} {s : Shared}
theorem gen_rule {c T : Addr} {elt iter : Expr} {x : Str} {px gpos : Pos} {scope : Scope} {te : TE} {k : Nat} {Q' : Value → Shared → Prop} {R : Hp → Nat → (Nat → V → Prop) → Prop}
    (hr : Room k X.A) (TB : GxR.TabB X.base X.mg c T) (hcode : X.env.code = .ref c) (S : GxR.GenS X.env scope x) (hi : PE X iter te) (hs : ∀ v, genFold iter X.env v = pure v) (I : Inv X pins σ H s)
    (h : te σ H fun v H1 => ∃ n Pv Fv, Src X v H1 n Pv ∧ GxR.TabG H1 T ∧ EltX X H1 T σ scope x elt Pv Fv ∧ R H1 n Fv) (hQ : ∀ H1 n Fv g s5, R H1 n Fv → ReadyG X pins σ H1 T n Fv g s5 → Q' (.ref g) s5) :
    wpAny (model X.prog X.w) X.A (eval (gexp elt iter x px scope gpos) X.env) Q' X.xe s := by
  have hdp := hr.dp
  refine wpAny_GeneratorExp_make S.co (closure_ok S.free) S.cell S.dot S.kind (by omega) ?_ hs
  refine thn (hi.run pins s σ H _ I h) fun xv s1 ⟨v, H1, I1, r1, n, Pv, Fv, src, ⟨ps, hP, ht⟩, hel, hR⟩ => ?_
  obtain ⟨o, a, St, hlt, ⟨ua, hua, nua⟩, hiter, W, st0⟩ := src.it pins σ s1 xv I1 r1
  refine hiter _ _ _ ?_
  have hPs : s1.heap.get? T = some { cls := .none, data := .fields ps } := I1.hok T _ hP
  have hPlt : T < s1.heap.objs.size := Heap.lt_size hPs
  have hP2 : (s1.heap.push o).get? T = some { cls := .none, data := .fields ps } := Heap.get?_push_of_some _ hPs
  have cd : PySem.W.CodeHd (s1.heap.push o) c T := TB.code.keeps fun b u e => Heap.get?_push_of_some _ (I1.bk b u e)
  have lim2 : (s1.heap.push o).NoLimit := I1.nolimit.push o
  have haT : a ≠ T := fun z => by
    rw [z, hP] at hua
    exact nua ps (Option.some.inj hua).symm
  have cont : ∀ (code : Value) (h3 : Heap) (tk : Nat) (ps' : Array Value), Heap.ExtBut T (s1.heap.push o) h3 → (s1.heap.push o).objs.size ≤ h3.objs.size → h3.get? T = some { cls := .none, data := .fields ps' } → (∃ more, ps' = ps ++ more) → TriplesOk ps'.toList →
      wpAny (model X.prog X.w) X.A (builtinsFor X.env.globals X.env.builtins) (fun bi s₄ => ∀ h', h'.Ns s₄.heap.objs.size (fun y => if y = ".0" then some (Value.ref s1.heap.objs.size) else none) → Heap.SameBut s₄.heap.objs.size (s₄.heap.push { cls := .type "frame", data := .dict #[] }) h' →
          Q' (.ref h'.objs.size) { s₄ with
            gens := s₄.gens.push (.fresh (.compStart (gexp elt iter x px scope gpos) 0 (.ref s1.heap.objs.size) .none (genEnv scope (cloFrom X.env.cells scope.names []) s₄.heap.objs.size code bi X.env))),
            toks := s₄.toks + 1 + 1 + 1,
            heap := h'.push { cls := .type "generator", data := .fields #[.int s₄.gens.size 0, .str "<genexpr>" (s₄.toks + 1), .str (X.env.qual ++ "<genexpr>") (s₄.toks + 1 + 1)] } }) X.xe { s1 with heap := h3, toks := tk } := by
    intro code h3 tk ps' hx hsz hP3 hmore ht3
    obtain ⟨bm, ob, e1, e2, e3, e4, e5, e6, e7, e8⟩ := TB.bm
    have hcP : cStatics ≠ T := fun e => by
      obtain ⟨_, hns, _⟩ := I1.nolimit
      obtain ⟨o', es, ep, ho, hd, _⟩ := hns
      rw [e, hPs] at ho
      cases ho
      cases hd
    have hcl : cStatics < s1.heap.objs.size := let ⟨_, hns, _⟩ := I1.nolimit; hns.lt
    have sz2 : (s1.heap.push o).objs.size = s1.heap.objs.size + 1 := Heap.size_push ..
    have keep3 : ∀ b u, b ≠ T → s1.heap.get? b = some u → h3.get? b = some u := fun b u hb e => hx b u hb (Heap.get?_push_of_some _ e)
    have lim3 : h3.NoLimit := lim2.extBut hx hcP
    refine wpAny_builtinsFor (m := X.mg) (by rw [I1.ok.glob]; exact ((I1.mod.glob.keeps I1.bk).push o).extBut hx TB.gP) e1 e2 (keep3 _ _ e4 (I1.bk _ _ e5)) e6 e7 e8 ?_
    intro h' hn' hs'
    have W3 : ∀ B : Around, B.handled = none → Walks X.prog X.w B s1.heap.objs.size [s1.heap.objs.size, a] [s1.heap.objs.size] n (fun i u => ∃ x, Pv i x ∧ RelV x u) St := W
    have st3 : St 0 h3 := (W _ hr.hd).frame _ _ _ st0 fun b hb u e => hx b u (fun z => by
      rcases List.mem_cons.mp hb with z2 | z2
      · exact Nat.ne_of_lt hPlt (z.symm.trans z2)
      · exact haT ((List.mem_singleton.mp z2).symm.trans z)) e
    have s13 : s1.heap.objs.size < h3.objs.size := by rw [sz2] at hsz; exact hsz
    have hfp : ∀ b, b ∈ [s1.heap.objs.size, a] → b < h3.objs.size := fun b hb => by
      rcases List.mem_cons.mp hb with z | z
      · rw [z]; exact s13
      · rw [List.mem_singleton.mp z]; exact Nat.lt_trans hlt s13
    have hcw : cStatics ∉ [s1.heap.objs.size] := fun z => Nat.ne_of_lt hcl (List.mem_singleton.mp z)
    have hsz' : h'.objs.size = h3.objs.size + 1 := by rw [hs'.1, Heap.size_push]
    have keep' : ∀ b u, h3.get? b = some u → h'.get? b = some u := fun b u e => hs'.extBut b u (Nat.ne_of_lt (Heap.lt_size e)) (Heap.get?_push_of_some _ e)
    have hclt : cStatics < h3.objs.size := Nat.lt_trans hcl s13
    have hsub : ∀ b, b ∈ [s1.heap.objs.size] → b ∈ List.range h3.objs.size := fun b hb => List.mem_range.mpr (hfp b (List.mem_cons.mpr (.inl (List.mem_singleton.mp hb))))
    have haC : h'.objs.size ≠ h3.objs.size := by rw [hsz']; exact Nat.succ_ne_self _
    have haf : h'.objs.size ∉ List.range h3.objs.size := fun hm => by
      have z := List.mem_range.mp hm
      rw [hsz'] at z
      exact absurd (Nat.lt_of_succ_lt z) (Nat.lt_irrefl _)
    generalize hgo : ({ cls := .type "generator", data := .fields #[.int s1.gens.size 0, .str "<genexpr>" (tk + 1), .str (X.env.qual ++ "<genexpr>") (tk + 1 + 1)] } : Obj) = go
    have hgg : (h'.push go).get? h'.objs.size = some go := by rw [← hgo]; exact Heap.get?_push_size _ rfl
    have keep5 : ∀ b u, h3.get? b = some u → (h'.push go).get? b = some u := fun b u e => Heap.get?_push_of_some _ (keep' b u e)
    have WS := WalksS.genexpQ (prog := X.prog) (w := X.w) (A := X.A.in4) hr.hd h'.objs.size s1.gens.size h3.objs.size (List.range h3.objs.size) [s1.heap.objs.size] yes n (fun i u => ∃ y, Fv i y ∧ RelV y u) haC haf hsub (by show X.A.depth < recursionLimit; omega) (List.mem_range.mpr hclt) (Nat.ne_of_lt hclt) hcw
    rw [yes_len, Nat.sub_zero] at WS
    have cq : EltQ X.prog X.w (genEnv scope (cloFrom X.env.cells scope.names []) h3.objs.size code builtinsNs X.env) (X.A.depth + 1, X.A.units + 16) x elt (List.range h3.objs.size) [s1.heap.objs.size] (fun i u => ∃ x, Pv i x ∧ RelV x u) (fun i u => ∃ y, Fv i y ∧ RelV y u) (h'.push go) := by
      refine ⟨fun B E i u t m fit pu hn hm old => ?_⟩
      obtain ⟨xv', hpv, rv'⟩ := pu
      have kt : ∀ b u, b ≠ T → s1.heap.get? b = some u → t.heap.get? b = some u := fun b u hb e => by
        have e3' := keep3 b u hb e
        exact old b (List.mem_range.mpr (Heap.lt_size e3')) (fun z => absurd (List.mem_singleton.mp z) (Nat.ne_of_lt (Heap.lt_size e))) u (keep5 b u e3')
      have nb : ∀ b u, X.base.get? b = some u → b ≠ T := fun b u e z => by
        have := (I1.bs b u e).2
        rw [z, hP] at this
        cases this
      have bs : Bs X.K X.mg X.base t := ⟨I1.mod, fun b u e => kt b u (nb b u e) (I1.bk b u e)⟩
      have ec : EC X H1 T σ scope x B (genEnv scope (cloFrom X.env.cells scope.names []) h3.objs.size code builtinsNs X.env) t u := by
        refine ⟨fit, ⟨S.kind, I1.ok.glob, rfl⟩, rfl, bs, hok_off I1.hok ⟨ps, hP⟩ kt, fun j y v e1 e2 e3 e4 => ?_, ⟨m, hn, hm⟩⟩
        obtain ⟨m1, _, hl⟩ := I1.loc
        obtain ⟨u1, ru, lk⟩ := hl j y v e1 e2 (.inr (.inl e3))
        rcases lk with ⟨kk, _⟩ | ⟨_, c1, hc1, ob1, ho1, hd1⟩
        · have kk' : X.env.scope.names.lookup y = some NameKind.local := kk
          rw [e3] at kk'
          cases kk'
        · refine ⟨c1, u1, ?_, ⟨ob1, kt c1 ob1 (fun z => ?_) ho1, hd1⟩, ru⟩
          · show (cloFrom X.env.cells scope.names []).lookup y = some c1
            rw [clo_lookup e4, hc1]
            rfl
          · rw [z, hPs] at ho1
            cases ho1
            cases hd1
      obtain ⟨y, fy, qe⟩ := hel B _ t i xv' u ec hpv rv'
      exact qe t (ks_refl t) _ _ fun u' t' r' k' => ⟨⟨y, fy, r'⟩, k'⟩
    have at0 := gen_fresh (P := X.prog) (w := X.w) (A := X.A.in4) (cenv := genEnv scope (cloFrom X.env.cells scope.names []) h3.objs.size code builtinsNs X.env) (elt := elt) (iter := iter) (x := x) (px := px) (pos := gpos) (scope := scope) (I := s1.heap.objs.size)
      (fp := List.range h3.objs.size) (wr := [s1.heap.objs.size]) (n := n) (d := (X.A.depth + 1, X.A.units + 16)) (Fv := fun i u => ∃ y, Fv i y ∧ RelV y u) (a := h'.objs.size) (g := s1.gens.size)
      (s := { heap := h'.push go, gens := s1.gens.push (.fresh (.compStart (gexp elt iter x px scope gpos) 0 (.ref s1.heap.objs.size) .none (genEnv scope (cloFrom X.env.cells scope.names []) h3.objs.size code builtinsNs X.env))), drawn := s1.drawn, toks := tk + 1 + 1 + 1, os := s1.os })
      (m := fun y => if y = ".0" then some (Value.ref s1.heap.objs.size) else none)
      ⟨hr.hd, Nat.le_refl _, by show X.A.units + 1 + 1 + 1 + 1 + 1 + 8 ≤ X.A.units + 16; omega⟩ (fun B hB => (W3 B hB).mono_fp fun b hb => List.mem_range.mpr (hfp b hb)) S.loc (by simp [genEnv, S.kind]) S.co (fun hm => Nat.lt_irrefl _ (List.mem_range.mp hm)) cq
      (by rw [← hgo]; exact ⟨_, _, _, Heap.get?_push_size _ rfl, rfl, rfl, rfl⟩) (Array.getElem?_push_size ..) ((W3 _ hr.hd).frame _ _ _ st3 fun b _ u e => keep5 b u e) (hn'.push _) (lim3.keeps keep5)
    refine hQ H1 n Fv _ _ hR ⟨_, _, _, _, _, WS.in4_1, ?_, ?_, ?_, fun s' hm => ?_⟩
    · exact at0
    · intro i u hu
      obtain ⟨j, hj, q⟩ := hu
      have ej : j = i := by
        have : passing yes n 0 = List.range n := by unfold passing; rw [List.drop_zero, List.filter_eq_self.mpr fun _ _ => rfl]
        rw [this] at hj
        obtain ⟨h1, h2⟩ := List.getElem?_eq_some_iff.mp hj
        rw [List.getElem_range] at h2
        exact h2.symm
      rw [ej] at q
      exact q
    · intro b hb
      show b < (h'.push _).objs.size
      rw [Heap.size_push]
      rcases List.mem_cons.mp hb with z | z
      · rw [z]; exact Nat.lt_succ_self _
      · rw [hsz']
        rcases List.mem_cons.mp z with z | z
        · rw [z]; exact Nat.lt_succ_of_lt (Nat.lt_succ_self _)
        · exact Nat.lt_succ_of_lt (Nat.lt_succ_of_lt (List.mem_range.mp z))
    · obtain ⟨more, em⟩ := hmore
      have nwr : ∀ b u, s1.heap.get? b = some u → b ∉ h3.objs.size :: [s1.heap.objs.size] := fun b u e hb => by
        have hl := Heap.lt_size e
        rcases List.mem_cons.mp hb with z | z
        · rw [z] at hl; exact absurd (Nat.lt_trans hl s13) (Nat.lt_irrefl _)
        · rw [List.mem_singleton.mp z] at hl; exact absurd hl (Nat.lt_irrefl _)
      have J := GxR.inv_tab (more := more) (h' := s'.heap) (g' := s'.gens) (d' := s'.drawn) (t' := s'.toks) I1 hP (fun b u hb e => hm.heap b u (nwr b u e) (keep5 b u (keep3 b u hb e)))
        (by rw [← em]; exact hm.heap T _ (nwr T _ hPs) (keep5 T _ hP3)) (AllBare.movedS (I1.bare.push rfl) hm)
      rw [GxR.sh_eta s1 s' hm.os] at J
      exact ⟨upd H1 T (.tbl (ps ++ more)), ⟨⟨ps ++ more, upd_same, by rw [← em]; exact ht3⟩, fun b hb => upd_ne hb⟩, J⟩
  refine ⟨lim2, ?_⟩
  cases hf : codeAmong gpos ps.toList with
  | some cv =>
    refine wpAny_genexprCode_hit hcode (cd.code hP2 ht) hf ?_
    exact cont cv (s1.heap.push o) s1.toks ps (Heap.ExtBut.refl _ _) (Nat.le_refl _) hP2 ⟨#[], by simp⟩ ht
  | none =>
    refine wpAny_genexprCodeX hcode (cd.code hP2 ht) (cd.tab hP2) hf fun c' hh tk hx hge hlt2 hco' _ htab' _ => ?_
    obtain ⟨o1, vs, f1, tf, fl, tg, inF, tx, tt, op, _, _, _, _, _, _, _, _, _, htr, _⟩ := hco'
    exact cont _ hh tk _ hx (Nat.le_trans hge (Nat.le_of_lt hlt2)) htab'.2 ⟨_, rfl⟩ htr
end
end G8
/-! all(..), sum(..) as expressions; elements. -/
namespace G8
open PySem PySem.Spec PyProof.Rows L2 Q8
def tAllG (X : Cx) (T : Addr) (scope : Scope) (x : Str) (elt : Expr) (te : TE) : TE := fun σ H Q => te σ H fun v H1 =>
  ∃ n Pv, Src X v H1 n Pv ∧ GxR.TabG H1 T ∧ EltX X H1 T σ scope x elt Pv (fun _ y => y = .bl true) ∧ ∀ H2, GxR.Tabbed T H1 H2 → Q (.bl true) H2
def tSumG (X : Cx) (T : Addr) (scope : Scope) (x : Str) (elt : Expr) (te : TE) : TE := fun σ H Q => te σ H fun v H1 =>
  ∃ n Pv val, Src X v H1 n Pv ∧ GxR.TabG H1 T ∧ EltX X H1 T σ scope x elt Pv (fun i y => y = .int (val i)) ∧ (∀ j, j < n → InLong (val j) ∧ InLong (preSum val (j + 1))) ∧ ∀ H2, GxR.Tabbed T H1 H2 → Q (.int (preSum val n)) H2
theorem all_yes (n : Nat) : (List.range n).all yes = true := List.all_eq_true.mpr fun _ _ => rfl
section
variable {X : Cx}
theorem pe_allG {c T : Addr} {elt iter : Expr} {x : Str} {px p pos gpos : Pos} {scope : Scope} {te : TE} {k : Nat}
    (hr : Room k X.A) (hg : Gl X "all") (hm : X.mg "all" = none) (TB : GxR.TabB X.base X.mg c T) (hcode : X.env.code = .ref c) (S : GxR.GenS X.env scope x) (hi : PE X iter te)
    (hs : ∀ v, genFold iter X.env v = pure v := by intro _; rfl)
    (he : starEach [gexp elt iter x px scope gpos] X.env = (false, eval (gexp elt iter x px scope gpos) X.env) :: starEach [] X.env := by rfl) :
    PE X (.Call (.Name "all" p) [gexp elt iter x px scope gpos] [] pos) (tAllG X T scope x elt te) := by
  have hb : bootBuiltins ("all" : Str) = some (.builtin "all") := by decide +kernel
  refine ⟨fun pins s σ H Q I h => ?_⟩
  refine wpAny_Call_Name_kw (ld_blt I hg hm hb ?_)
  refine PyProof.Rows.callWith_builtin1 ?_ he (by rfl)
  rw [he]
  show wpAny _ _ (spliced ((false, eval (gexp elt iter x px scope gpos) X.env) :: backTo pos (starEach [] X.env))) _ _ s
  refine Calls.spliced_cons (gen_rule (R := fun H1 n Fv => (∀ i y, Fv i y → y = .bl true) ∧ ∀ H2, GxR.Tabbed T H1 H2 → Q (.bl true) H2) hr TB hcode S hi hs I ?_ fun H1 n Fv g s5 hR hG => ?_)
  · refine Eq.mp (congrArg (te σ H) (funext fun v => funext fun H1 => propext ⟨?_, ?_⟩)) h
    · rintro ⟨n, Pv, a, b, c, d⟩
      exact ⟨n, Pv, _, a, b, c, fun _ _ z => z, d⟩
    · rintro ⟨n, Pv, Fv, a, b, cc, d, e⟩
      exact ⟨n, Pv, a, b, fun B cenv t i v u ec hp rv => let ⟨y, fy, q⟩ := cc B cenv t i v u ec hp rv; ⟨y, d i y fy, q⟩, e⟩
  · obtain ⟨fp, wr, G, F, St, W, hst, hF, _, hI⟩ := hG
    refine Calls.spliced_nil ?_
    refine call_all_walkS (W.self 0 _ _ _ hst ⟨g, fp, wr, G, _, F, St, yes, rfl, W, hst, fun i u t Qj Ej hu q => ?_, fun s' hmv => ?_⟩)
    · obtain ⟨y, fy, r⟩ := hF i u hu
      have ey := hR.1 i y fy
      subst ey
      cases (show u = Value.bool true from r)
      exact wpAny_truthy_bool q
    · obtain ⟨H2, hT, J⟩ := hI s' hmv
      rw [all_yes]
      exact ⟨.bl true, H2, J, rfl, hR.2 H2 hT⟩
theorem pe_sumG {c T : Addr} {elt iter : Expr} {x : Str} {px p pos gpos : Pos} {scope : Scope} {te : TE} {k : Nat}
    (hr : Room k X.A) (hg : Gl X "sum") (hm : X.mg "sum" = none) (TB : GxR.TabB X.base X.mg c T) (hcode : X.env.code = .ref c) (S : GxR.GenS X.env scope x) (hi : PE X iter te)
    (hs : ∀ v, genFold iter X.env v = pure v := by intro _; rfl)
    (he : starEach [gexp elt iter x px scope gpos] X.env = (false, eval (gexp elt iter x px scope gpos) X.env) :: starEach [] X.env := by rfl) :
    PE X (.Call (.Name "sum" p) [gexp elt iter x px scope gpos] [] pos) (tSumG X T scope x elt te) := by
  have hb : bootBuiltins ("sum" : Str) = some (.builtin "sum") := by decide +kernel
  refine ⟨fun pins s σ H Q I h => ?_⟩
  refine wpAny_Call_Name_kw (ld_blt I hg hm hb ?_)
  refine PyProof.Rows.callWith_builtin1 ?_ he (by rfl)
  rw [he]
  show wpAny _ _ (spliced ((false, eval (gexp elt iter x px scope gpos) X.env) :: backTo pos (starEach [] X.env))) _ _ s
  refine Calls.spliced_cons (gen_rule (R := fun H1 n Fv => ∃ val : Nat → Int, (∀ i y, Fv i y → y = .int (val i)) ∧ (∀ j, j < n → InLong (val j) ∧ InLong (preSum val (j + 1))) ∧ ∀ H2, GxR.Tabbed T H1 H2 → Q (.int (preSum val n)) H2) hr TB hcode S hi hs I ?_ fun H1 n Fv g s5 hR hG => ?_)
  · refine Eq.mp (congrArg (te σ H) (funext fun v => funext fun H1 => propext ⟨?_, ?_⟩)) h
    · rintro ⟨n, Pv, val, a, b, cc, d, e⟩
      exact ⟨n, Pv, _, a, b, cc, val, fun _ _ z => z, d, e⟩
    · rintro ⟨n, Pv, Fv, a, b, cc, val, d, e, f⟩
      exact ⟨n, Pv, val, a, b, fun B cenv t i v u ec hp rv => let ⟨y, fy, q⟩ := cc B cenv t i v u ec hp rv; ⟨y, d i y fy, q⟩, e, f⟩
  · obtain ⟨fp, wr, G, F, St, W, hst, hF, hfp, hI⟩ := hG
    obtain ⟨val, hv, hl, hQ⟩ := hR
    refine Calls.spliced_nil ?_
    refine call_sum_walkS (W.self 0 _ _ _ hst ⟨g, fp, wr, G, _, F, St, val, rfl, W, hst, fun b hb => hfp b hb, fun i u hu => ?_, hl, fun s' t' hmv => ?_⟩)
    · obtain ⟨y, fy, r⟩ := hF i u hu
      have ey := hv i y fy
      subst ey
      exact r
    · obtain ⟨H2, hT, J⟩ := hI s' hmv
      exact ⟨.int _, H2, J, ⟨t', rfl⟩, hQ H2 hT⟩
end

/-! ### elements -/
section
variable {X : Cx} {H : Hp} {T : Addr} {σ : L2.St} {scope : Scope} {x y : Str} {B : Around} {cenv : Env} {t : Shared} {u : Value} {p pos : Pos}
/-- the walked name -/
theorem ec_own {v : V} (ec : EC X H T σ scope x B cenv t u) (hl : scope.names.lookup x = some NameKind.local) (r : RelV v u) (hd : (x == ("__debug__" : Str)) = false := by decide) : QE X.prog X.w B cenv (.Name x p) t v := by
  obtain ⟨m, hn, hm⟩ := ec.loc
  exact q_local ec.env (by rw [ec.sc]; exact hl) hn hm r hd
/-- a captured name -/
theorem ec_cap {v : V} {j : Nat} (ec : EC X H T σ scope x B cenv t u) (h1 : X.N[j]? = some y) (h2 : σ[j]? = some (some v)) (h3 : X.env.scope.names.lookup y = some NameKind.cell) (h4 : scope.names.lookup y = some NameKind.free)
    (hd : (y == ("__debug__" : Str)) = false := by decide) (hcd : (y == ("__classdict__" : Str)) = false := by decide) : QE X.prog X.w B cenv (.Name y p) t v := by
  obtain ⟨c, u', e1, e2, r⟩ := ec.cap j y v h1 h2 h3 (PySem.mem_of_lookup h4)
  exact q_free ec.env (by rw [ec.sc]; exact h4) e1 e2 r hd hcd
theorem hok_to {P : Program} {w : World} {H : Hp} {s s' : Shared} (ok : HOk P w H s.heap) (k : Keeps s s') : HOk P w H s'.heap := ok.kept (ks_heap k)
theorem tup_of {P : Program} {w : World} {H : Hp} {h : Heap} {a : Addr} {xs : List V} (ok : HOk P w H h) (ha : H a = some (.tup xs)) : ∃ its : List Value, Vals xs its ∧ IsTup h a its.toArray ∧ xs.length ≤ sizeLine := by
  obtain ⟨z, its, r, pl⟩ := (show ObjOk P w H h a (.tup xs) from ok a _ ha)
  exact ⟨its, r, pl, z⟩
/-- a[i], a tuple -/
theorem ec_item {P : Program} {w : World} {H' : Hp} {e1 e2 : Expr} {a : Addr} {xs : List V} {i : Int} {v : V} (ok : HOk P w H' t.heap) (ha : H' a = some (.tup xs)) (h1 : QE P w B cenv e1 t (.ref a)) (h2 : QE P w B cenv e2 t (.int i)) (he : atI xs i = some v)
    (hs : PlainIx e2 := by exact fun _ _ => rfl) : QE P w B cenv (.Subscript e1 e2 pos) t v := fun s1 k Q E q => by
  refine Subscript_ (h1 s1 k _ _ fun u1 s2 r1 k2 => h2 s2 (ks_trans k k2) _ _ fun u2 s3 r2 k3 => ?_)
  cases (show u1 = Value.ref a from r1)
  obtain ⟨tk, rfl⟩ := r2
  have k13 := ks_trans k (ks_trans k2 k3)
  obtain ⟨its, r, pl, hz⟩ := tup_of (hok_to ok k13) ha
  obtain ⟨j, g1, g2, g3, g4, g5⟩ := atI_get he
  obtain ⟨w', ew, rw'⟩ := r.get g2
  have hl := r.length
  have hn := line63
  exact subscriptTail_builtinR (x := w') pl.typeIs slot_tuple_getitem.lookup
    (getItem_tuple (j := j) (Q := fun r s' => r = w' ∧ Q r s') pl (by omega) (by omega) (by rw [List.size_toArray, ← hl]; exact g1) (by simpa using ew) ⟨rfl, q w' s3 rw' (ks_trans k2 k3)⟩) (hs _ _)
/-- len(e), a tuple -/
theorem ec_len {P : Program} {w : World} {K : PySem.W.Frag} {mg : Str → Option Value} {base : Heap} {H' : Hp} {e1 : Expr} {p1 : Pos} {a : Addr} {xs : List V} (bs : Bs K mg base t) (N : Q8.Ev cenv) (hl : cenv.scope.names.lookup ("len" : Str) = some NameKind.globalImplicit) (hm : mg "len" = none) (ok : HOk P w H' t.heap) (ha : H' a = some (.tup xs)) (h1 : QE P w B cenv e1 t (.ref a))
    (he : starEach [e1] cenv = (false, eval e1 cenv) :: starEach [] cenv := by rfl) (hpl : ((backTo pos (starEach [] cenv)).any fun x => x.fst) = false := by rfl) : QE P w B cenv (.Call (.Name "len" p1) [e1] [] pos) t (.int xs.length) := fun s1 k Q E q => by
  refine wpAny_Call_Name_kw (q_blt bs N hl hm boot_len (by decide) (by decide) k ?_)
  refine PyProof.Rows.callWith_builtin1 (qa_cons h1 qa_nil he pos s1 k _ _ fun us s2 r k2 => ?_) he hpl
  obtain ⟨u1, rfl, r1⟩ := vals1 r
  cases (show u1 = Value.ref a from r1)
  obtain ⟨its, r', pl, hz⟩ := tup_of (hok_to ok (ks_trans k k2)) ha
  have hlen := r'.length
  have hn := line63
  refine len_tuple pl (by simp only [List.size_toArray]; omega) ?_
  exact q _ _ ⟨s2.toks + 1, by rw [List.size_toArray, hlen]⟩ (ks_trans k2 (ks_tok _ _))
/-- d[k], a dict by tuples -/
theorem ec_dget {P : Program} {w : World} {H' : Hp} {e1 e2 : Expr} {d b : Addr} {kvs : List (List Key × V)} {ks : List Key} {v : V} (hu : B.units + 1 < cLine) (ok : HOk P w H' t.heap) (hd : H' d = some (.dT kvs)) (hb : H' b = some (.tup (ks.map kV))) (hv : valV kvs ks = some v) (h1 : QE P w B cenv e1 t (.ref d)) (h2 : QE P w B cenv e2 t (.ref b))
    (hs : NoSl e2 := by exact fun _ _ => rfl) : QE P w B cenv (.Subscript e1 e2 pos) t v := fun s1 k Q E q => by
  refine subD_of PySem.F.slot_dict_getitem.lookup hs (h1 s1 k _ _ fun u1 s2 r1 k2 => h2 s2 (ks_trans k k2) _ _ fun u2 s3 r2 k3 => ?_)
  cases (show u1 = Value.ref d from r1)
  cases (show u2 = Value.ref b from r2)
  have ok3 := hok_to ok (ks_trans k (ks_trans k2 k3))
  obtain ⟨z, hd', xs, rel, dd⟩ := dt_rd ok3 (.inl hd)
  obtain ⟨_, _, _, _, o, es, ep, ho, hx, _⟩ := (show ObjOk P w H' s3.heap d (.dT kvs) from ok3 d _ hd)
  obtain ⟨w', hw, rw'⟩ := RelO.some_of (v := v) (o := (atKey xs ks).map (·.2)) (by rw [← hv]; exact rel.val ks)
  obtain ⟨p, hp, hp2⟩ := Option.map_eq_some_iff.mp hw
  refine ⟨⟨o, ho, hx.1⟩, wpAny_getItem_heap (tupleKind_room_in1 hu) (key_of ok3 hb) dd hp ?_⟩
  rw [hp2]
  exact q w' _ rw' (ks_trans (ks_trans k2 k3) (ks_tok _ _))
end
end G8
/-! for .. in enumerate(t), t a tuple. -/
namespace N8
open PySem PySem.Spec PyProof.Rows L2
/-- enumerate(v): over what v begins -/
theorem meets_enum1 {v : Value} {o : Obj} {H : Heap → Prop} (B : Begins v o H) :
    Meets (Builtin.«enumerate.__new__» ⟨[.type "enumerate", v], []⟩) (fun _ R s => H s.heap ∧
      R (.ok (.ret (.ref (s.heap.push o).objs.size))) { s with heap := (s.heap.push o).push { cls := .type "enumerate", data := .fields #[.none, .bool false, .ref s.heap.objs.size, rawInt 0, .none, .none] } }) :=
  .of_wp fun prog w A R s h => by
    obtain ⟨hp, g, d, tk, os⟩ := s
    obtain ⟨h1, h⟩ := h
    have hsub := sub_enumerate
    have q1 : ∀ {A' : Around} {E : Value → Shared → Prop} {Q : Value → Shared → Prop}, Q (.ref hp.objs.size) ⟨hp.push o, g, d, tk, os⟩ → wpAny (model prog w) A' (pyIter v) Q E ⟨hp, g, d, tk, os⟩ := fun q => B.iter prog w _ _ ⟨hp, g, d, tk, os⟩ _ h1 q
    wp_walk using q1
    refine wpAny_stack_any fun st => wpAny_pure ?_
    split
    · rename_i c _ _ _ _ _
      cases (c == Value.type "enumerate") <;> (wp_walk using q1; exact ⟨_, rfl, h⟩)
    · wp_walk using q1
      exact ⟨_, rfl, h⟩
theorem call_enum1 {prog : Program} {w : World} {A : Around} {E : Value → Shared → Prop} {s : Shared} {v : Value} {o : Obj} {H : Heap → Prop} {Q : Value → Shared → Prop} (B : Begins v o H) (h1 : H s.heap)
    (h : ∀ h', IsEnum h' (s.heap.objs.size + 1) s.heap.objs.size 0 .none → h'.get? s.heap.objs.size = some o → h'.objs.size = s.heap.objs.size + 2 → (∀ b u, s.heap.get? b = some u → h'.get? b = some u) → Q (.ref (s.heap.objs.size + 1)) { s with heap := h' }) :
    wpAny (model prog w) A (call (.type "enumerate") [v]) Q E s := by
  refine callType_new F.called_enumerate (by decide) (F.typeCall_enumerate_1 _) (F.newCall_enumerate_1 _) (fun obj => F.args_object_init_2 obj _) F.entry_enumerate_new (meets_enum1 B) ⟨h1, ?_⟩
  have hz : (s.heap.push o).objs.size = s.heap.objs.size + 1 := Heap.size_push ..
  show _ ∧ _
  rw [hz]
  have he : IsEnum ((s.heap.push o).push { cls := .type "enumerate", data := .fields #[.none, .bool false, .ref s.heap.objs.size, rawInt 0, .none, .none] }) (s.heap.objs.size + 1) s.heap.objs.size 0 .none := by
    have q := Heap.get?_push_size (s.heap.push o) (o := { cls := .type "enumerate", data := .fields #[.none, .bool false, .ref s.heap.objs.size, rawInt 0, .none, .none] }) rfl
    rw [hz] at q
    exact q
  exact ⟨⟨_, he, rfl⟩, h _ he (Heap.get?_push_of_some _ (Heap.get?_push_size _ B.free)) (by rw [Heap.size_push, hz]) fun b u x => Heap.get?_push_of_some _ (Heap.get?_push_of_some _ x)⟩
/-- the tuple at a, each item in a new pair -/
def IteT (K : PySem.W.Frag) (a : Addr) : It where
  go := fun i H => ∃ (xs : List V) (x : V), SqT K H a xs ∧ xs[i]? = some x
  yld := fun i H v H' => ∃ T x, v = .ref T ∧ H T = none ∧ H' = upd H T (.tup [.int (i : Nat), x]) ∧ ∀ xs, SqT K H a xs → xs[i]? = some x
  stop := fun i H => ∃ xs : List V, SqT K H a xs ∧ xs.length ≤ i
theorem turn_enumT {P : Program} {w : World} {K : PySem.W.Frag} {elts : List Expr} {kk : Nat} {tpos : Pos} (a e it : Addr) :
    Turn P w K (.Tuple elts kk tpos) (IteT K a) [e, it] e (fun i h => (∃ old, IsEnum h e it ((i : Nat) : Int) old) ∧ h.IsTupleIter it a i ∧ e ≠ it ∧ a ≠ e ∧ a ≠ it) where
  mem := by simp
  obj := fun i h st b hb => by
    obtain ⟨⟨old, he⟩, ⟨o, ho, hc, hd⟩, _⟩ := st
    rcases (show b = e ∨ b = it by simpa using hb) with z | z
    · rw [z]; exact ⟨_, he, fun v q => nomatch q⟩
    · rw [z]; exact ⟨o, ho, fun v q => by rw [hd] at q; cases q⟩
  keep := fun i h h' st k => by
    obtain ⟨⟨old, he⟩, hi, r⟩ := st
    exact ⟨⟨old, k e (by simp) _ he⟩, hi.at fun o q => k it (by simp) o q, r⟩
  item := by
    intro X hP hw hK hc i pins s σ H E I hf st hg
    subst hP hw hK
    obtain ⟨⟨old, he⟩, hit, hne, hae, hai⟩ := st
    obtain ⟨xs, x, hq, hx⟩ := hg
    obtain ⟨its, rv, p, hz⟩ := I.tuple hq
    obtain ⟨u, hu, ru⟩ := rv.get hx
    have hu' : its.toArray[i]? = some u := by simpa using hu
    have hel : e < s.heap.objs.size := Heap.lt_size he
    have hil : it < s.heap.objs.size := by obtain ⟨_, q, _⟩ := hit; exact Heap.lt_size q
    have D := Draws.tuple (prog := X.prog) (w := X.w) (A := X.A.in1) (I.ok.hd hc) it a hai its.toArray
    refine wpAny_pyNext_enum_itemC D he ⟨hit, p⟩ (Array.getElem?_eq_some_iff.mp hu').1 hne (fun z => ?_) fun y h' tk hy ho st' hT hsz hk => ?_
    · rcases (show e = it ∨ e = a by simpa using z) with q | q
      · exact hne q
      · exact hae q.symm
    have ey : y = u := by
      have hy : its.toArray[i]? = some y := hy
      rw [hu'] at hy
      exact (Option.some.inj hy).symm
    subst ey
    refine ⟨_, rfl, wpAny_letOwnedTupleGo_enum (s := { s with heap := h', toks := tk + 1 }) ho fun h'' he' sb => ?_⟩
    have hT2 : h''.get? s.heap.objs.size = some { cls := .type "tuple", data := .seq #[.int i tk, y] } := (sb.2 _ (Nat.ne_of_gt hel)).trans hT
    have new : ObjOk X.prog X.w (upd H s.heap.objs.size (.tup [.int (i : Nat), x])) h'' s.heap.objs.size (.tup [.int (i : Nat), x]) :=
      ⟨by show 2 ≤ sizeLine; decide, [.int i tk, y], .cons ⟨_, rfl⟩ (.cons ru .nil), ⟨_, hT2, rfl, _, rfl⟩⟩
    have I1 : Inv X pins σ (upd H s.heap.objs.size (.tup [.int (i : Nat), x])) { s with heap := h'', toks := tk + 1 } :=
      I.turnedNew (ch := [e, it]) (fun b ob hb q => (sb.2 b (fun z => hb (by simp [z]))).trans (hk b ob (fun z => hb (by simp [z])) (fun z => hb (by simp [z])) q)) hf (Nat.le_refl _) new
    refine ⟨.ref s.heap.objs.size, _, I1, rfl, ⟨_, x, rfl, I.hok.fresh (Nat.le_refl _), rfl, fun ys hy => by rw [I.tuple_inj hy hq]; exact hx⟩, ⟨⟨y, ?_⟩, st'.1.at fun o q => (sb.2 it (Ne.symm hne)).trans q, hne, hae, hai⟩, fun b hb => ?_⟩
    · have e1 : ((i + 1 : Nat) : Int) = (i : Int) + 1 := by omega
      rw [e1]
      exact he'
    · have hb' : b < s.heap.objs.size := by
        rcases (show b = e ∨ b = it by simpa using hb) with z | z
        · rw [z]; exact hel
        · rw [z]; exact hil
      rw [upd_ne (Nat.ne_of_lt hb')]
      exact (hf b hb).1
  done := by
    intro X hP hw hK hc i pins s σ H E I hf st hg
    subst hP hw hK
    obtain ⟨⟨old, he⟩, hit, hne, hae, hai⟩ := st
    obtain ⟨xs, hq, hx⟩ := hg
    obtain ⟨its, rv, p, hz⟩ := I.tuple hq
    obtain ⟨f0, f1, f2, f3, f4, f5⟩ := hf it (by simp)
    have hl := rv.length
    have hT : s.TypeIs (.ref e) "enumerate" := ⟨_, he, rfl⟩
    unfold pyNext
    refine wpAny_bind (wpAny_attempt (wpAny_callSpecial?_slot (name := Str.ofString "__next__") hT F.slot_enumerate_next
      (wpAny_call_entry F.slot_enumerate_next hT F.entry_enumerate_next ?_ (F.args_enumerate_next_1 _))))
    show wpAny _ _ (field (.ref e) 2 >>= _) _ _ _
    refine wpAny_bind (wpAny_field he rfl (x := .ref it) rfl ?_)
    refine wpAny_bind (wpAny_nextOf_tuple_end (I.ok.hd hc) hit p (by simp; omega) fun h' x eb hx' => ?_)
    obtain ⟨o, ho, hcl⟩ := hx'
    refine wpAny_bind (wpAny_isInstance (T := "StopIteration") (b := true) ⟨o, ho, hcl⟩ isSubtype_stop ?_)
    exact wpAny_pure ⟨rfl, I.turned (t' := s.toks) (fun b o hb q => eb b o hb q) f0 f1 f3 f4 f5⟩
  self := fun A i s Q E st h => let ⟨⟨_, he⟩, _⟩ := st; wpAny_pyIter_enum he h
def iEnumT (K : PySem.W.Frag) (ta : TA) : TI := fun σ H R => ta σ H fun vs H1 => ∃ a xs, vs = [.ref a] ∧ SqT K H1 a xs ∧ R (IteT K a) H1
theorem pi_enumT {X : Cx} {e : Expr} {ta : TA} {p pos tpos : Pos} {elts : List Expr} {kk : Nat} (hg : Gl X "enumerate") (hm : X.mg "enumerate" = none) (ha : PA X [e] ta) (hs : starEach [e] X.env = [(false, eval e X.env)] := by rfl) :
    PI X (.Tuple elts kk tpos) (.Call (.Name "enumerate" p) [e] [] pos) (iEnumT X.K ta) := by
  refine ⟨fun pins s σ H R I h => ?_⟩
  refine Call_ (ld_blt I hg hm boot_enumerate (PyProof.Rows.callWith_type1 (thn (ha.run pos pins s σ H _ I h) fun us s1 ⟨vs, H1, I1, r1, q1⟩ => ?_) hs rfl))
  obtain ⟨a, xs, ex, hq, q⟩ := q1
  subst ex
  obtain ⟨u, rfl, ru⟩ := vals1 r1
  cases (show u = Value.ref a from ru)
  obtain ⟨its, rv, p', hz⟩ := I1.tuple hq
  have hal : a < s1.heap.objs.size := p'.lt
  refine call_enum1 (begins_tuple a its.toArray) p' fun h' he hit hsz hk => wpAny_pyIter_enum he ?_
  have I2 : Inv X pins σ H1 { s1 with heap := h' } := I1.kept (t' := s1.toks) hk
  refine ⟨s1.heap.objs.size + 1, [s1.heap.objs.size + 1, s1.heap.objs.size], _, _, H1, rfl, I2, turn_enumT a (s1.heap.objs.size + 1) s1.heap.objs.size, ⟨⟨.none, he⟩, ⟨_, hit, rfl, rfl⟩, Nat.succ_ne_self _, Nat.ne_of_lt (Nat.lt_succ_of_lt hal), Nat.ne_of_lt hal⟩, fun b hb => ?_, q⟩
  have hle : s1.heap.objs.size ≤ b := by
    rcases (show b = s1.heap.objs.size + 1 ∨ b = s1.heap.objs.size by simpa using hb) with z | z
    · rw [z]; exact Nat.le_add_right _ _
    · rw [z]; exact Nat.le_refl _
  exact I1.fpOk hle (I1.hok.fresh hle)
theorem walk_enumT {K : PySem.W.Frag} {a : Addr} {xs : List V} : Walk (IteT K a) xs.length (fun H => SqT K H a xs) (YPair (fun i => some (.int (i : Nat))) (fun i => xs[i]?)) := by
  refine ⟨fun i _ hi q => ⟨xs, xs[i], q, by simp [hi]⟩, fun _ q => ⟨xs, q, Nat.le_refl _⟩, fun i H v H' _ q y => ?_⟩
  obtain ⟨T, x, h1, h2, h3, h4⟩ := y
  exact ⟨T, .int (i : Nat), x, h1, h2, h3, rfl, h4 xs q⟩
end N8
/-! tuple * 0, tuple * 1; in, not in over a tuple of tuples. -/
namespace R8
open PySem PySem.Spec PyProof.Rows L2
theorem tuple_mul0 (l : Addr) (items : Array Value) (n : Nat) (dd : Option Addr) (sl : Array (Option Value)) (u : Tok) (h1 : items.isEmpty = false) :
    Meets (Builtin.«tuple.__mul__» ⟨[.ref l, .int 0 u], []⟩) (fun _ R s => s.heap.get? l = some { cls := .type "tuple", dict := dd, data := .seq items n, slots := sl } ∧
      R (.ok (.ret (Value.ref s.heap.objs.size))) { s with heap := s.heap.push { cls := Value.type "tuple", data := Data.seq #[] }, toks := s.toks }) :=
  .of_wp fun prog w A R s h => by
    obtain ⟨hp, g, d, tk, os⟩ := s
    obtain ⟨hl, h⟩ := h
    have f1 := AutoSeq1.idx_int
    have c1 : (items.isEmpty || (0 : Int) == 1) = false := by rw [h1]; rfl
    wp_walk using wpAny_loadPart' hl
    repeat (first
      | (refine wpAny_ite_false (decide_eq_false (by rw [c1]; exact Bool.false_ne_true)) ?_; wp_walk using wpAny_loadPart' hl)
      | (refine wpAny_ite_true (decide_eq_true (by first | rfl | decide | simp)) ?_; wp_walk using wpAny_loadPart' hl))
    exact ⟨_, rfl, h⟩
theorem tuple_mul1 (l : Addr) (items : Array Value) (n : Nat) (dd : Option Addr) (sl : Array (Option Value)) (u : Tok) :
    Meets (Builtin.«tuple.__mul__» ⟨[.ref l, .int 1 u], []⟩) (fun _ R s => s.heap.get? l = some { cls := .type "tuple", dict := dd, data := .seq items n, slots := sl } ∧ R (.ok (.ret (Value.ref l))) s) :=
  .of_wp fun prog w A R s h => by
    obtain ⟨hp, g, d, tk, os⟩ := s
    obtain ⟨hl, h⟩ := h
    have f1 := AutoSeq1.idx_int
    have c1 : (items.isEmpty || (1 : Int) == 1) = true := by simp
    wp_walk using wpAny_loadPart' hl
    repeat (first
      | (refine wpAny_ite_true (decide_eq_true (by rw [c1])) ?_; wp_walk using wpAny_loadPart' hl)
      | (refine wpAny_ite_true (decide_eq_true (by first | rfl | decide | simp)) ?_; wp_walk using wpAny_loadPart' hl))
    exact ⟨_, rfl, h⟩
/-- t * k, 0 <= k -/
def rRepA : R2 := fun x y H Q => ∃ l k xs, x = .ref l ∧ y = .int k ∧ H l = some (.tup xs) ∧ xs ≠ [] ∧ 0 ≤ k ∧ k ≤ 1000 ∧ xs.length ≤ 1000 ∧ (k = 1 → Q (.ref l) H) ∧ (k ≠ 1 → ∀ p, H p = none → Q (.ref p) (upd H p (.tup (List.replicate k.toNat xs).flatten)))
section
variable {X : Cx}
theorem op_repA : OpR X (binaryOp .Mult) rRepA := by
  intro pins s σ H x y v u Q I rx ry h
  obtain ⟨l, k, xs, ex, ey, hl, hne, h0, h1, hz, q1, q2⟩ := h
  by_cases hk : 2 ≤ k
  · exact op_repT pins s σ H x y v u Q I rx ry ⟨l, k, xs, ex, ey, SqT.of hl, hne, hk, h1, hz, q2 (by omega)⟩
  subst ex ey
  cases rx
  obtain ⟨t, rfl⟩ := ry
  obtain ⟨its, r, ⟨⟨cls, dd, data, sl⟩, ho, hc, n, hd⟩, hs⟩ := I.tuple (SqT.of hl)
  simp only at hc hd
  subst hc hd
  have hi : its.toArray.isEmpty = false := by
    cases its with
    | nil => cases r; exact absurd rfl hne
    | cons a b => rfl
  have road : ∀ {R : Value → Shared → Prop}, wpAny (model X.prog X.w) X.A (call (.builtin "tuple.__mul__") [.ref l, .int k t]) R X.xe s → wpAny (model X.prog X.w) X.A (binaryOp .Mult (.ref l) (.int k t)) R X.xe s := fun {R} hcall =>
    wpAny_binaryOp_repeat_ref (T := "tuple") (U := "int") (by decide) ⟨_, ho, rfl⟩ (fun s' => typeIs_int s' k t) noFill_tuple_mul F.fills_int_mul F.slot_int_rmul repeat_tuple F.slot_int_index.lookup
      (call_meets F.slot_int_rmul (typeIs_int s k t) F.entry_int_rmul (F.args_int_rmul_2 _ _) (int_rmul_tuple k t l its.toArray n dd sl) ⟨ho, rfl, ⟨_, ho, rfl⟩, hcall⟩)
  rcases (show k = 0 ∨ k = 1 by omega) with e | e
  · subst e
    refine road (call_meets F.slot_tuple_mul ⟨_, ho, rfl⟩ F.entry_tuple_mul (F.args_tuple_mul_2 _ _) (tuple_mul0 l its.toArray n dd sl t hi) ⟨ho, ?_⟩)
    refine ⟨.ref s.heap.objs.size, _, I.laid (t' := s.toks) (o := .tup []) (fun b ob q => Heap.get?_push_of_some _ q) (Nat.le_refl _) ?_, rfl, q2 (by decide) _ (I.hok.fresh (Nat.le_refl _))⟩
    exact ⟨Nat.zero_le _, [], .nil, IsTup.new _ _⟩
  · subst e
    exact road (call_meets F.slot_tuple_mul ⟨_, ho, rfl⟩ F.entry_tuple_mul (F.args_tuple_mul_2 _ _) (tuple_mul1 l its.toArray n dd sl t) ⟨ho, .ref l, H, I, rfl, q1 rfl⟩)

/-- x in t, t a tuple of data -/
def rInDT (K : PySem.W.Frag) : R2 := fun x y H Q => ∃ d ds, Dp K H x d ∧ Dp K H y (.tuple ds) ∧ SeqAt.shaped d = true ∧ SeqAt.shaped (.tuple ds) = true ∧ Q (.bl (ds.any fun z => PyData.eqv z d)) H
def rNotInDT (K : PySem.W.Frag) : R2 := fun x y H Q => ∃ d ds, Dp K H x d ∧ Dp K H y (.tuple ds) ∧ SeqAt.shaped d = true ∧ SeqAt.shaped (.tuple ds) = true ∧ Q (.bl (!ds.any fun z => PyData.eqv z d)) H
theorem op_inDT (hu : X.A.units + 65 < cLine) : OpR X (compareOp .In) (rInDT X.K) := by
  intro pins s σ H x y v u Q I rx ry ⟨d, ds, hd, he, sd, se, q⟩
  obtain ⟨as, r1⟩ := Dp.reads I d x v hd rx
  obtain ⟨bs, r2⟩ := Dp.reads I (.tuple ds) y u he ry
  exact SeqAt.in_tuple_reads r2 r1 (SeqAt.canLay_of_shaped se) (SeqAt.canLay_of_shaped sd) (room_in_shaped sd hu) ⟨.bl _, H, I, rfl, q⟩
theorem op_notInDT (hu : X.A.units + 65 < cLine) : OpR X (compareOp .NotIn) (rNotInDT X.K) := by
  intro pins s σ H x y v u Q I rx ry ⟨d, ds, hd, he, sd, se, q⟩
  obtain ⟨as, r1⟩ := Dp.reads I d x v hd rx
  obtain ⟨bs, r2⟩ := Dp.reads I (.tuple ds) y u he ry
  exact SeqAt.notIn_tuple_reads r2 r1 (SeqAt.canLay_of_shaped se) (SeqAt.canLay_of_shaped sd) (room_in_shaped sd hu) ⟨.bl _, H, I, rfl, q⟩
end

/-! ### pairs of ints as data -/
def prD (p : Int × Int) : PyData := .tuple [.int p.1, .int p.2]
theorem prD_eqv (p q : Int × Int) : PyData.eqv (prD p) (prD q) = decide (p = q) := by
  obtain ⟨a, b⟩ := p
  obtain ⟨c, d⟩ := q
  simp only [prD, PyData.eqv, PyData.eqvAll, Bool.and_true]
  by_cases h1 : a = c
  · by_cases h2 : b = d
    · simp [h1, h2]
    · simp [h1, h2]
  · simp [h1]
theorem prD_lay (p : Int × Int) : (prD p).canLay0 = true := by simp [prD, PyData.canLay0, PyData.canLayAll0]
theorem prD_depth (p : Int × Int) : (prD p).depth = 1 := by simp [prD, PyData.depth, PyData.depthAll]
theorem prDs_lay : ∀ ps : List (Int × Int), PyData.canLayAll0 (ps.map prD) = true
  | [] => rfl
  | p :: r => by
    rw [List.map_cons]
    simp only [PyData.canLayAll0, prD_lay, prDs_lay r, Bool.and_self]
theorem prDs_depth : ∀ ps : List (Int × Int), PyData.depthAll (ps.map prD) ≤ 1
  | [] => by simp [PyData.depthAll]
  | p :: r => by
    have h := prDs_depth r
    rw [List.map_cons]
    simp only [PyData.depthAll, prD_depth]
    omega
theorem prD_shaped (p : Int × Int) : SeqAt.shaped (prD p) = true := by
  unfold SeqAt.shaped
  rw [prD_lay, prD_depth]
  rfl
theorem prDs_shapedL (ps : List (Int × Int)) : SeqAt.shaped (.list (ps.map prD)) = true := by
  have h := prDs_depth ps
  have e : (PyData.list (ps.map prD)).depth ≤ 64 := by
    simp only [PyData.depth]
    omega
  unfold SeqAt.shaped
  rw [decide_eq_true e, Bool.and_true]
  exact prDs_lay ps
theorem prDs_shapedT (ps : List (Int × Int)) : SeqAt.shaped (.tuple (ps.map prD)) = true := by
  have h := prDs_depth ps
  have e : (PyData.tuple (ps.map prD)).depth ≤ 64 := by
    simp only [PyData.depth]
    omega
  unfold SeqAt.shaped
  rw [decide_eq_true e, Bool.and_true]
  exact prDs_lay ps
theorem any_prD (p : Int × Int) (ps : List (Int × Int)) : ((ps.map prD).any fun z => PyData.eqv z (prD p)) = decide (p ∈ ps) := by
  induction ps with
  | nil => rfl
  | cons a r ih =>
    rw [List.map_cons, List.any_cons, ih, prD_eqv]
    by_cases h : a = p
    · simp [h]
    · have h' : ¬ p = a := fun z => h z.symm
      simp [h, h']
end R8
/-! The text by places. -/
namespace B84
open PySem PySem.Spec PyProof.Rows L2
def topS (i : Nat) : Stmt := PySem.Challenge.pw_bellcopies_k84_across_agreements.main.body.getD i (.Pass ⟨0, 0, 0, 0⟩)
abbrev sIsIn : Stmt := topS 6
abbrev sIsArc : Stmt := topS 11
abbrev sNeedWeb : Stmt := topS 12
abbrev sIsLog : Stmt := topS 13
abbrev sNeedPerson : Stmt := topS 14
abbrev sPeople : Stmt := topS 15
abbrev sTaken : Stmt := topS 16
abbrev sBehind : Stmt := topS 17
abbrev sHearers : Stmt := topS 19
abbrev sWinnersOf : Stmt := topS 20
abbrev sWinners : Stmt := topS 21
abbrev sNeedPc : Stmt := topS 24
abbrev sReaching : Stmt := topS 26
abbrev sRaised : Stmt := topS 27
abbrev sChosen : Stmt := topS 28
abbrev sInOrder : Stmt := topS 29
abbrev sBestOf : Stmt := topS 30
abbrev sCheapWin : Stmt := topS 31
abbrev sNeedPg : Stmt := topS 33
abbrev sAgree : Stmt := topS 35
abbrev sCheapAg : Stmt := topS 36
abbrev sShows : Stmt := topS 37
abbrev sLtaken : Stmt := topS 39
abbrev sLweb : Stmt := topS 42
abbrev sLaw : Stmt := topS 48
theorem scIsIn : FnScope ["value", "least", "most"] ["value", "least", "most"] (defScope sIsIn) := ⟨rfl, rfl, rfl, by decide +kernel, rfl, by decide +kernel, by decide +kernel⟩

open Q8 in
/-- is_in of an int is quiet -/
theorem qf_isin {P : Program} {w : World} {K : PySem.W.Frag} {mg : Str → Option Value} {base : Heap} {f : Addr} {fd : FuncData} (F : Fun K "is_in" "is_in" sIsIn f fd) (mi : mg "isinstance" = none) (mn : mg "int" = none) (mb : mg "bool" = none) {i a b : Int} (h1 : a ≤ i) (h2 : i ≤ b) :
    QF P w K mg base 4 f [.int i, .int a, .int b] (.bl true) := by
  intro A s us hh hdp B r Q E q
  obtain ⟨u1, us1, rfl, r1, rr⟩ : ∃ u r, us = u :: r ∧ RelV (.int i) u ∧ Vals [.int a, .int b] r := by
    cases r with
    | cons p q => exact ⟨_, _, rfl, p, q⟩
  obtain ⟨u2, u3, rfl, r2, r3⟩ := vals2 rr
  obtain ⟨t1, rfl⟩ := r1
  obtain ⟨t2, rfl⟩ := r2
  obtain ⟨t3, rfl⟩ := r3
  have bnd := F.binds (ps := ["value", "least", "most"]) fun _ _ _ _ _ _ us hl => match us, hl with | [_, _, _], _ => rfl
  obtain ⟨oc, od, kV, doc, pm, an, cdv, ct, osl, rfl, lk, hcd⟩ := F.ex
  have KX : K.In s.heap := B.mod.kin.keeps B.bk
  have hb := bnd s [.int i t1, .int a t2, .int b t3] KX rfl
  refine wpAny_call (codeAny_call_function (by omega) (KX _ _ lk) rfl scIsIn.co scIsIn.gen rfl (PySem.W.codeRec_of KX hcd) (hb _ _ _ _ ?_))
  refine wpAny_newFunctionEnv (fun y hy e => ?_) (fun y hy => ?_) (fun h' hn hs => ?_) rfl
  · revert e
    have : ∀ y ∈ (defScope sIsIn).names, y.2 ≠ NameKind.cell := by decide +kernel
    exact this y hy
  · have : ∀ x ∈ (["value", "least", "most"] : List Str), (defScope sIsIn).names.lookup x = some NameKind.local := by decide +kernel
    exact this _ (List.of_mem_zip hy).1
  · have kp : ∀ b o, s.heap.get? b = some o → h'.get? b = some o := fun b o e => hs.extBut b o (Nat.ne_of_lt (Heap.lt_size e)) (Heap.get?_push_of_some _ e)
    have k0 : Keeps s { s with heap := h', toks := s.toks + 3 } := ⟨h', _, rfl, kp⟩
    have B1 := B.to k0
    refine ⟨B1.mod.nolimit.keeps B1.bk, codeAny_func ?_⟩
    refine wpAny_execs_cons (wpAny_Return_some ?_)
    have N : Q8.Ev (newEnv (defScope sIsIn) s.heap.objs.size mainGlobals [] ("is_in" ++ Str.ofString ".<locals>.") (some f) cdv none builtinsNs) := ⟨rfl, rfl, rfl⟩
    have lv : ∀ {A : Around} {p : Pos}, QE P w A (newEnv (defScope sIsIn) s.heap.objs.size mainGlobals [] ("is_in" ++ Str.ofString ".<locals>.") (some f) cdv none builtinsNs) (.Name "value" p) { s with heap := h', toks := s.toks + 3 } (.int i) := q_local N (show (defScope sIsIn).names.lookup ("value" : Str) = some NameKind.local by decide +kernel) hn (by rfl) ⟨t1, rfl⟩
    have ll : ∀ {A : Around} {p : Pos}, QE P w A (newEnv (defScope sIsIn) s.heap.objs.size mainGlobals [] ("is_in" ++ Str.ofString ".<locals>.") (some f) cdv none builtinsNs) (.Name "least" p) { s with heap := h', toks := s.toks + 3 } (.int a) := q_local N (show (defScope sIsIn).names.lookup ("least" : Str) = some NameKind.local by decide +kernel) hn (by rfl) ⟨t2, rfl⟩
    have lm : ∀ {A : Around} {p : Pos}, QE P w A (newEnv (defScope sIsIn) s.heap.objs.size mainGlobals [] ("is_in" ++ Str.ofString ".<locals>.") (some f) cdv none builtinsNs) (.Name "most" p) { s with heap := h', toks := s.toks + 3 } (.int b) := q_local N (show (defScope sIsIn).names.lookup ("most" : Str) = some NameKind.local by decide +kernel) hn (by rfl) ⟨t3, rfl⟩
    refine q_and (q_isi (b := true) B1 N (show (defScope sIsIn).names.lookup ("isinstance" : Str) = some NameKind.globalImplicit by decide +kernel) mi lv (q_ty (n := "int") B1 N (show (defScope sIsIn).names.lookup ("int" : Str) = some NameKind.globalImplicit by decide +kernel) mn (by decide +kernel)) (kit_ty (by decide +kernel))) (q_and (q_not (q_isi (b := false) B1 N (show (defScope sIsIn).names.lookup ("isinstance" : Str) = some NameKind.globalImplicit by decide +kernel) mi lv (q_ty (n := "bool") B1 N (show (defScope sIsIn).names.lookup ("bool" : Str) = some NameKind.globalImplicit by decide +kernel) mb (by decide +kernel)) (kit_ty (by decide +kernel)))) (q_one (q_le2 ll lv lm))) _ (ks_refl _) _ _ fun u s2 r k2 => ?_
    rw [decide_eq_true h1, decide_eq_true h2] at r
    exact q u s2 r (ks_trans k0 k2)
end B84
/-! What stands in the heap; calls by name. -/
namespace B84
open PySem PySem.Spec PyProof.Rows L2 K84
/-- all that was tracked is as it was, but for the tables of code objects, which may have grown -/
structure Kp (H H' : Hp) : Prop where
  old : ∀ b o, H b = some o → (∀ ps, o ≠ HO.tbl ps) → H' b = some o
  tab : ∀ T ps, H T = some (.tbl ps) → ∃ qs, H' T = some (.tbl qs) ∧ (TriplesOk ps.toList → TriplesOk qs.toList)
theorem Kp.refl (H : Hp) : Kp H H := ⟨fun _ _ h _ => h, fun _ ps h => ⟨ps, h, fun z => z⟩⟩
theorem Kp.trans {H H1 H2 : Hp} (a : Kp H H1) (b : Kp H1 H2) : Kp H H2 := ⟨fun c o h n => b.old c o (a.old c o h n) n, fun T ps h => by
  obtain ⟨q1, h1, k1⟩ := a.tab T ps h
  obtain ⟨q2, h2, k2⟩ := b.tab T q1 h1
  exact ⟨q2, h2, fun z => k2 (k1 z)⟩⟩
theorem Kp.free {H H' : Hp} (e : Kp H H') {l : Addr} (h : H' l = none) : H l = none := by
  cases q : H l with
  | none => rfl
  | some o =>
    by_cases ht : ∃ ps, o = HO.tbl ps
    · obtain ⟨ps, rfl⟩ := ht
      obtain ⟨qs, h2, _⟩ := e.tab l ps q
      rw [h] at h2
      cases h2
    · have h2 := e.old l o q fun ps z => ht ⟨ps, z⟩
      rw [h] at h2
      cases h2
/-- an object that H does not know is laid or changed -/
theorem Kp.mut {H H' : Hp} (e : Kp H H') {p : Addr} {o : HO} (h : H p = none) : Kp H (upd H' p o) := ⟨fun b u q n => by
  rw [upd_ne (ne_of_none q h)]
  exact e.old b u q n, fun T ps q => by
  obtain ⟨qs, h2, k⟩ := e.tab T ps q
  exact ⟨qs, by rw [upd_ne (ne_of_none q h)]; exact h2, k⟩⟩
theorem Kp.new {H H' : Hp} (e : Kp H H') {p : Addr} {o : HO} (h : H' p = none) : Kp H (upd H' p o) := e.mut (e.free h)
theorem Kp.upd {H : Hp} {p : Addr} {o : HO} (h : H p = none) : Kp H (upd H p o) := (Kp.refl H).new h
theorem Kp.tbd {H H' : Hp} {T : Addr} (hT : GxR.TabG H T) (t : GxR.Tabbed T H H') : Kp H H' := by
  obtain ⟨ps, hp, _⟩ := hT
  obtain ⟨⟨qs, hq, tq⟩, k⟩ := t
  refine ⟨fun b o h n => ?_, fun T' ps' h => ?_⟩
  · have hb : b ≠ T := fun z => by
      rw [z, hp] at h
      exact n ps (Option.some.inj h).symm
    rw [k b hb]
    exact h
  · by_cases e : T' = T
    · rw [e]
      exact ⟨qs, hq, fun _ => tq⟩
    · exact ⟨ps', by rw [k T' e]; exact h, fun z => z⟩
theorem Kp.tabG {H H' : Hp} (e : Kp H H') {T : Addr} (h : GxR.TabG H T) : GxR.TabG H' T := by
  obtain ⟨ps, hp, t⟩ := h
  obtain ⟨qs, hq, k⟩ := e.tab T ps hp
  exact ⟨qs, hq, k t⟩
theorem Kp.tup {H H' : Hp} (e : Kp H H') {a : Addr} {xs : List V} (h : H a = some (.tup xs)) : H' a = some (.tup xs) := e.old a _ h fun _ z => nomatch z
theorem Kp.lst {H H' : Hp} (e : Kp H H') {a : Addr} {xs : List V} (h : H a = some (.lst xs)) : H' a = some (.lst xs) := e.old a _ h fun _ z => nomatch z
theorem Kp.dK {H H' : Hp} (e : Kp H H') {a : Addr} {xs : List (Key × V)} (h : H a = some (.dK xs)) : H' a = some (.dK xs) := e.old a _ h fun _ z => nomatch z
theorem Kp.dT {H H' : Hp} (e : Kp H H') {a : Addr} {xs : List (List Key × V)} (h : H a = some (.dT xs)) : H' a = some (.dT xs) := e.old a _ h fun _ z => nomatch z
theorem Kp.sql {K : PySem.W.Frag} {H H' : Hp} (e : Kp H H') {a : Addr} {xs : List V} (h : SqL K H a xs) : SqL K H' a xs := by
  rcases h with (h | ⟨o, h⟩) | h
  · exact .inl (.inl (e.lst h))
  · exact .inl (.inr ⟨o, e.old a _ h fun _ z => nomatch z⟩)
  · exact .inr h

/-- the tables of the defs that hold generator expressions -/
def Tabs (ts : List Addr) (H : Hp) : Prop := ∀ T, T ∈ ts → GxR.TabG H T
theorem Tabs.kp {ts : List Addr} {H H' : Hp} (h : Tabs ts H) (e : Kp H H') : Tabs ts H' := fun T m => e.tabG (h T m)

abbrev pV (p : Int × Int) : HO := .tup [.int p.1, .int p.2]
/-- the arcs as a tuple of pairs -/
structure ArcsH (H : Hp) (b : Addr) (A : Arcs) (ps : List Addr) : Prop where
  tup : H b = some (.tup (ps.map V.ref))
  len : ps.length = A.length
  at_ : ∀ (k : Nat) (p : Addr) (e : Int × Int), ps[k]? = some p → A[k]? = some e → H p = some (pV e)
theorem ArcsH.kp {H H' : Hp} {b : Addr} {A : Arcs} {ps : List Addr} (h : ArcsH H b A ps) (e : Kp H H') : ArcsH H' b A ps := ⟨e.tup h.tup, h.len, fun k p x h1 h2 => e.tup (h.at_ k p x h1 h2)⟩
theorem ArcsH.get {H : Hp} {b : Addr} {A : Arcs} {ps : List Addr} (h : ArcsH H b A ps) {k : Nat} {e : Int × Int} (he : A[k]? = some e) : ∃ p, ps[k]? = some p ∧ H p = some (pV e) := by
  have hk : k < ps.length := by rw [h.len]; exact (List.getElem?_eq_some_iff.mp he).1
  exact ⟨ps[k], List.getElem?_eq_getElem hk, h.at_ k _ e (List.getElem?_eq_getElem hk) he⟩
theorem ArcsH.got {H : Hp} {b : Addr} {A : Arcs} {ps : List Addr} (h : ArcsH H b A ps) {k : Nat} {p : Addr} (hp : ps[k]? = some p) : ∃ e, A[k]? = some e ∧ H p = some (pV e) := by
  have hk : k < A.length := by rw [← h.len]; exact (List.getElem?_eq_some_iff.mp hp).1
  exact ⟨A[k], List.getElem?_eq_getElem hk, h.at_ k p _ hp (List.getElem?_eq_getElem hk)⟩
/-- a web -/
def WebH (H : Hp) (a : Addr) (n : Int) (A : Arcs) : Prop := ∃ b ps, H a = some (.tup [.int n, .ref b]) ∧ ArcsH H b A ps
theorem WebH.kp {H H' : Hp} {a : Addr} {n : Int} {A : Arcs} (h : WebH H a n A) (e : Kp H H') : WebH H' a n A := by
  obtain ⟨b, ps, h1, h2⟩ := h
  exact ⟨b, ps, e.tup h1, h2.kp e⟩

/-- a def of the module, to be called by its name -/
structure Cal (P : Program) (w : World) (K : PySem.W.Frag) (mg : Str → Option Value) (base : Heap) (x : Str) (k : Nat) (ps : List Str) (sp : Sp) : Prop where
  ex : ∃ f fd, mg x = some (.ref f) ∧ PySem.W.keepIn K (.ref f) = true ∧ L2.Binds K fd ps [] ∧ FnOk P w K mg base CX0 k f fd ps sp
theorem pe_c {X : Cx} {x : Str} {k : Nat} {ps : List Str} {sp : Sp} {p pos : Pos} {e : Expr} {es : List Expr} {t : TA} (C : Cal X.prog X.w X.K X.mg X.base x k ps sp) (hr : Room k X.A) (hg : Gl X x) (ha : PA X (e :: es) t) (hdb : (x == ("__debug__" : Str)) = false := by decide)
    (he : starEach (e :: es) X.env = (false, eval e X.env) :: starEach es X.env := by rfl) (hpl : (backTo pos (starEach es X.env)).any (·.1) = false := by rfl) : PE X (.Call (.Name x p) (e :: es) [] pos) (tCall sp [] E0 t) := by
  obtain ⟨f, fd, hm, hk, hb, F⟩ := C.ex
  exact pe_call F hr hg hm hk hb .nil pass0 ha hdb he hpl

/-- the built-in names that the module leaves alone -/
structure Free (mg : Str → Option Value) : Prop where
  isi : mg "isinstance" = none
  int_ : mg "int" = none
  bool_ : mg "bool" = none
  tuple : mg "tuple" = none
  len : mg "len" = none
  all_ : mg "all" = none
  list : mg "list" = none
  enum : mg "enumerate" = none
  range : mg "range" = none
  sorted : mg "sorted" = none
  min_ : mg "min" = none
  sum_ : mg "sum" = none
  six : ∃ t, mg "MOST_PEOPLE" = some (.int 6 t)
  twelve : ∃ t, mg "MOST_ARCS" = some (.int 12 t)
  sixty : ∃ t, mg "MOST_LOG" = some (.int 60 t)
  thousand : ∃ t, mg "MOST_PRICE" = some (.int 1000 t)
theorem b_isi : bootBuiltins ("isinstance" : Str) = some (.builtin "isinstance") := by decide +kernel
theorem b_int : bootBuiltins ("int" : Str) = some (.type "int") := by decide +kernel
theorem b_bool : bootBuiltins ("bool" : Str) = some (.type "bool") := by decide +kernel
theorem b_tuple : bootBuiltins ("tuple" : Str) = some (.type "tuple") := by decide +kernel
theorem b_list : bootBuiltins ("list" : Str) = some (.type "list") := by decide +kernel
theorem b_sorted : bootBuiltins ("sorted" : Str) = some (.builtin "sorted") := by decide +kernel
theorem b_min : bootBuiltins ("min" : Str) = some (.builtin "min") := by decide +kernel
section
variable {P : Program} {w : World} {K : PySem.W.Frag} {mg : Str → Option Value} {base : Heap}
/-- isinstance(e, T) -/
theorem pe_isi {X : Cx} {e : Expr} {te : TE} {T : Str} {n : String} {p1 p2 pos : Pos} (F : Free X.mg) (hg : Gl X "isinstance") (he : PE X e te) (hT : Gl X T) (hm : X.mg T = none) (hb : bootBuiltins T = some (.type n)) (hn : T ≠ "__name__" := by decide) (hd : (T == ("__debug__" : Str)) = false := by decide)
    (hs : starEach [e, .Name T p2] X.env = (false, eval e X.env) :: starEach [.Name T p2] X.env := by rfl) (hs2 : starEach [.Name T p2] X.env = (false, eval (.Name T p2) X.env) :: starEach [] X.env := by rfl)
    (hpl : (backTo pos (starEach [.Name T p2] X.env)).any (·.1) = false := by rfl) :
    PE X (.Call (.Name "isinstance" p1) [e, .Name T p2] [] pos) (tCB (rIsi X.K) (tCons te (tCons (tC (.ty n)) tNil))) :=
  pe_callB call_isi hg F.isi b_isi (pa_cons he (pa_cons (pe_bltn (v := .ty n) hT hm hb rfl hn hd) pa_nil hs2) hs) (by decide) (by decide) hs hpl

/-! ### is_in -/
def spIsIn : Sp := fun vs H Q _ => ∃ i a b : Int, vs = [.int i, .int a, .int b] ∧ Q (.bl (decide (a ≤ i) && decide (i ≤ b))) H
theorem ok_isin {f : Addr} {fd : FuncData} {k : Nat} (F : Fun K "is_in" "is_in" sIsIn f fd) (M : Free mg) : FnOk P w K mg base CX0 (k + 1) f fd ["value", "least", "most"] spIsIn := by
  refine F.ok scIsIn (fun vs H Q E h => ?_) (fun cdv A outer s H vs Q E hr h => ?_)
  · obtain ⟨i, a, b, rfl, _⟩ := h
    rfl
  · obtain ⟨i, a, b, rfl, q⟩ := h
    refine ⟨_, pss_one (ps_ret (pe_and (pe_isi M (by rfl) (pv 0) (by rfl) M.int_ b_int) (pe_and (pe_not (pe_isi M (by rfl) (pv 0) (by rfl) M.bool_ b_bool)) (pe_one (pe_chain op_le op_le (pv 1) (pv 0) (pv 2)))))), ?_⟩
    refine ⟨_, rfl, _, _, _, _, true, rfl, .ty _, .base (.int i), kit_ty (by decide +kernel), _, rfl, iteT ?_⟩
    refine ⟨_, rfl, _, _, _, _, false, rfl, .ty _, .base (.int i), kit_ty (by decide +kernel), _, rfl, _, rfl, iteT ?_⟩
    refine ⟨_, rfl, _, rfl, _, _, rfl, rfl, _, rfl, ?_⟩
    refine ite2 (fun h => ?_) (fun h => ?_)
    · rw [h] at q
      exact ⟨_, rfl, _, _, rfl, rfl, q⟩
    · have h' : decide (a ≤ i) = false := by simpa using h
      rw [h'] at q
      exact q
end
end B84
namespace B84
open PySem PySem.Spec PyProof.Rows L2 K84
/-- a def whose code object and table are known -/
theorem okT {P : Program} {w : World} {K : PySem.W.Frag} {mg : Str → Option Value} {base : Heap} {x qual : Str} {st : Stmt} {f c : Addr} {fd : FuncData} {N ps : List Str} {k : Nat} {sp : Sp} (F : Fun K x qual st f fd) (hc : fd.code = .ref c) (S : FnScope N ps (defScope st)) (len : ∀ vs H Q E, sp vs H Q E → vs.length = ps.length)
    (hbody : ∀ (A : Around) (outer : List Env) (s : Shared) (H : Hp) (vs : List V) (Q : VK) (E : XK), Room k (A.deeper (envOfC qual (defScope st) s.heap.objs.size f (.ref c))) → sp vs H Q E →
      ∃ t, PSs (cxOf CX0 P w K mg base N qual (defScope st) f (.ref c) A outer s H E).nox (defBody st) t ∧ t { nx := fun _ H' => Q .non H', rt := Q } (start N vs) H) : FnOk P w K mg base CX0 (k + 1) f fd ps sp := by
  obtain ⟨oc, od, kV, doc, pm, an, cdv, ct, osl, rfl, lk, hcd⟩ := F.ex
  obtain rfl : cdv = .ref c := hc
  refine fn_of lk hcd S len fun A outer s H vs Q E hr hsp => ?_
  obtain ⟨t, h, q⟩ := hbody A outer s H vs Q E hr hsp
  exact ⟨t, h.nox, q⟩
theorem gens_of {qual : Str} {st : Stmt} {n : Addr} {f : Addr} {cd : Value} {scope : Scope} {x : Str} (h1 : scope.kind = .function) (h2 : scope.isCoroutine = false) (h3 : ∀ y ∈ scope.names, y.2 ≠ .cell) (h4 : scope.names.lookup (".0" : Str) = some NameKind.local) (h5 : scope.names.lookup x = some .local)
    (h6 : ∀ y ∈ scope.names, y.2 = .free → (defScope st).names.lookup y.1 = some .cell) : GxR.GenS (envOfC qual (defScope st) n f cd) scope x := ⟨h1, h2, h3, h4, h5, fun y hy e => cell_has (h6 y hy e)⟩
theorem fit_lt {X : Cx} {H : Hp} {T : Addr} {σ : L2.St} {scope : Scope} {x : Str} {B : Around} {cenv : Env} {t : Shared} {u : Value} {k : Nat} (ec : G8.EC X H T σ scope x B cenv t u) (hr : Room (k + 1) X.A) : B.depth + 4 < recursionLimit := by
  have d1 : B.depth ≤ X.A.depth + 1 := ec.fit.dp
  have d2 := hr.dp
  omega
theorem fit_un {X : Cx} {H : Hp} {T : Addr} {σ : L2.St} {scope : Scope} {x : Str} {B : Around} {cenv : Env} {t : Shared} {u : Value} {k : Nat} (ec : G8.EC X H T σ scope x B cenv t u) (hr : Room k X.A) : B.units + 1 < cLine := by
  have d1 : B.units ≤ X.A.units + 16 := ec.fit.un
  have d2 := hr.un
  omega
/-- is_in, called where nothing else may change -/
structure IsIn (K : PySem.W.Frag) (mg : Str → Option Value) : Prop where
  ex : ∃ f fd, mg "is_in" = some (.ref f) ∧ Fun K "is_in" "is_in" sIsIn f fd
section
variable {P : Program} {w : World} {K : PySem.W.Frag} {mg : Str → Option Value} {base : Heap} {ts : List Addr}
def spIsArc (ts : List Addr) : Sp := fun vs H Q _ => ∃ (n u v : Int) (p : Addr), vs = [.int n, .ref p] ∧ H p = some (pV (u, v)) ∧ (1 ≤ u ∧ u ≤ n) ∧ (1 ≤ v ∧ v ≤ n) ∧ u ≠ v ∧ Tabs ts H ∧ ∀ H', Kp H H' → Q (.bl true) H'
theorem scIsArc : FnScope ["size", "value"] ["size", "value"] (defScope sIsArc) := ⟨rfl, rfl, rfl, by decide +kernel, rfl, by decide +kernel, by decide +kernel⟩
theorem ok_isarc {f c T : Addr} {fd : FuncData} {k : Nat} (F : Fun K "is_arc" "is_arc" sIsArc f fd) (hc : fd.code = .ref c) (TB : GxR.TabB base mg c T) (hT : T ∈ ts) (M : Free mg) (J : IsIn K mg) : FnOk P w K mg base CX0 (k + 3) f fd ["size", "value"] (spIsArc ts) := by
  refine okT F hc scIsArc (fun vs H Q E h => ?_) (fun A outer s H vs Q E hr h => ?_)
  · obtain ⟨n, u, v, p, rfl, _⟩ := h
    rfl
  · obtain ⟨n, u, v, p, rfl, hp, hu, hv, huv, tb, q⟩ := h
    refine ⟨_, pss_cons (ps_if (PW.pt (pw_or (pt_not (pt_val (pe_isi M (by rfl) (pv 1) (by rfl) M.tuple b_tuple))) (pw_or (pt_cmpR op_ne (pe_callB call_len_seq (by rfl) M.len PySem.boot_len (pa_cons (pv 1) pa_nil)) pe_int (nomark _))
      (pw_or1 (pt_not (pt_val (G8.pe_allG hr (by rfl) M.all_ TB rfl (gens_of rfl rfl (by decide +kernel) rfl rfl (by decide +kernel)) (pv 1))))))))
      (pss_one (ps_ret pe_bl)) pss_nil)
      (pss_one (ps_ret (pe_cmpR op_ne (pe_ix ix_tup (pv 1) pe_int (fun _ _ => rfl)) (pe_ix ix_tup (pv 1) pe_int (fun _ _ => rfl)) (nomark _)))), ?_⟩
    refine ⟨_, rfl, _, _, _, _, true, rfl, .ty _, .base (.tup hp), kit_ty (by decide +kernel), _, rfl, iteF ?_⟩
    refine ⟨_, rfl, p, _, rfl, .inr (SqT.of hp), rfl, _, rfl, iteF ?_⟩
    refine ⟨_, rfl, _, _, G8.src_tup hp, tb T hT, ?_, fun H2 t2 => ?_⟩
    · obtain ⟨fi, fdi, mi, FI⟩ := J.ex
      intro B cenv t i y z ec py ry
      have hy : ∃ m : Int, y = .int m ∧ 1 ≤ m ∧ m ≤ n := by
        match i, py with
        | 0, e => exact ⟨u, (Option.some.inj e).symm, hu.1, hu.2⟩
        | 1, e => exact ⟨v, (Option.some.inj e).symm, hv.1, hv.2⟩
        | i + 2, e => simp at e
      obtain ⟨m, rfl, hm1, hm2⟩ := hy
      exact ⟨.bl true, rfl, Q8.q_call ec.bs ec.env (by rw [ec.sc]; rfl) mi FI.kp ec.fit.hd (fit_lt ec hr) (qf_isin FI M.isi M.int_ M.bool_ hm1 hm2)
        (Q8.qa_cons (G8.ec_own ec rfl ry) (Q8.qa_cons Q8.q_int (Q8.qa_cons (G8.ec_cap (j := 0) ec rfl rfl rfl rfl) Q8.qa_nil)))⟩
    · have kp := Kp.tbd (tb T hT) t2
      refine ⟨_, rfl, iteF ?_⟩
      refine ⟨_, rfl, p, _, _, _, rfl, rfl, SqT.of (kp.tup hp), atI_nat (j := 0) rfl, _, rfl, p, _, _, _, rfl, rfl, SqT.of (kp.tup hp), atI_nat (j := 1) rfl, rfl, ?_⟩
      have e : (!decide (V.int u = V.int v)) = true := by
        rw [decide_eq_false (fun z => huv (V.int.inj z))]
        rfl
      rw [e]
      exact q H2 kp
end
end B84
namespace B84
open PySem PySem.Spec PyProof.Rows L2 K84
theorem dp_pair {K : PySem.W.Frag} {H : Hp} {p : Addr} {e : Int × Int} (h : H p = some (pV e)) : Dp K H (.ref p) (R8.prD e) := .tup (SqT.of h) (.cons (.int _) (.cons (.int _) .nil))
theorem dp_pairs {K : PySem.W.Frag} {H : Hp} : ∀ {ps : List Addr} {A : Arcs}, ps.length = A.length → (∀ (k : Nat) (p : Addr) (e : Int × Int), ps[k]? = some p → A[k]? = some e → H p = some (pV e)) → DpAll K H (ps.map V.ref) (A.map R8.prD)
  | [], [], _, _ => .nil
  | [], _ :: _, h, _ => by simp at h
  | _ :: _, [], h, _ => by simp at h
  | p :: ps, e :: A, h, f => .cons (dp_pair (f 0 p e rfl rfl)) (dp_pairs (by simpa using h) fun k q x h1 h2 => f (k + 1) q x (by simpa using h1) (by simpa using h2))
theorem cut_to {xs : List V} {i : Nat} : cutV xs none (some (i : Int)) = xs.take i := by
  unfold cutV
  rw [HT.sIx_none, HT.sIx_nat]
  show List.take (min i xs.length - 0) (List.drop 0 xs) = _
  rw [Nat.sub_zero, List.drop_zero]
  by_cases h : i ≤ xs.length
  · rw [Nat.min_eq_left h]
  · rw [Nat.min_eq_right (by omega), List.take_length, List.take_of_length_le (by omega)]
section
variable {P : Program} {w : World} {K : PySem.W.Frag} {mg : Str → Option Value} {base : Heap} {ts : List Addr}
theorem Cal.mono {x : Str} {j k : Nat} {qs : List Str} {sp : Sp} (C : Cal P w K mg base x j qs sp) (h : j ≤ k) : Cal P w K mg base x k qs sp := by
  obtain ⟨f, fd, h1, h2, h3, h4⟩ := C.ex
  exact ⟨f, fd, h1, h2, h3, h4.mono h⟩
def spNeedWeb (ts : List Addr) : Sp := fun vs H Q _ => ∃ (a : Addr) (n : Int) (A : Arcs), vs = [.ref a] ∧ WebH H a n A ∧ Web n A ∧ Tabs ts H ∧ ∀ H', Kp H H' → Q .non H'
theorem scNeedWeb : FnScope ["web", "index", "arc"] ["web"] (defScope sNeedWeb) := ⟨rfl, rfl, rfl, by decide +kernel, rfl, by decide +kernel, by decide +kernel⟩
theorem ok_needweb {f : Addr} {fd : FuncData} {k : Nat} (F : Fun K "need_web" "need_web" sNeedWeb f fd) (M : Free mg) (C1 : Cal P w K mg base "is_in" (k + 1) ["value", "least", "most"] spIsIn) (C2 : Cal P w K mg base "is_arc" (k + 1) ["size", "value"] (spIsArc ts)) : FnOk P w K mg base CX0 (k + 2) f fd ["web"] (spNeedWeb ts) := by
  refine F.ok scNeedWeb (fun vs H Q E h => ?_) (fun cdv A' outer s H vs Q E hr h => ?_)
  · obtain ⟨a, n, A, rfl, _⟩ := h
    rfl
  · obtain ⟨a, n, A, rfl, ⟨b, ps, ha, hA⟩, Wb, tb, q⟩ := h
    obtain ⟨t6, six⟩ := M.six
    obtain ⟨t12, twelve⟩ := M.twelve
    have hu : (cxOf CX0 P w K mg base ["web", "index", "arc"] "need_web" (defScope sNeedWeb) f cdv A' outer s H E).nox.A.units + 65 < cLine := by
      have := hr.un
      show (A'.deeper (envOfC "need_web" (defScope sNeedWeb) s.heap.objs.size f cdv)).units + 65 < cLine
      omega
    refine ⟨_,
      ((pss_cons (ps_if (PW.pt (pw_or (pt_not (pt_val (pe_isi M (by rfl) (pv 0) (by rfl) M.tuple b_tuple))) (pw_or (pt_cmpR op_ne (pe_callB call_len_seq (by rfl) M.len PySem.boot_len (pa_cons (pv 0) pa_nil)) pe_int (nomark _)) (pw_or1 (pt_not (pt_val (pe_c C1 hr (by rfl) (pa_cons (pe_ix ix_tup (pv 0) pe_int (fun _ _ => rfl)) (pa_cons pe_int (pa_cons (pe_glob (v := .int 6) (by rfl) six ⟨_, rfl⟩) pa_nil)))))))))) (pss_one ps_never) pss_nil)
      (pss_cons (ps_if (PW.pt (pw_or (pt_not (pt_val (pe_isi M (by rfl) (pe_ix ix_tup (pv 0) pe_int (fun _ _ => rfl)) (by rfl) M.tuple b_tuple))) (pw_or1 (pt_cmpR op_gt (pe_callB call_len_seq (by rfl) M.len PySem.boot_len (pa_cons (pe_ix ix_tup (pv 0) pe_int (fun _ _ => rfl)) pa_nil)) (pe_glob (v := .int 12) (by rfl) twelve ⟨_, rfl⟩) (nomark _))))) (pss_one ps_never) pss_nil)
      (pss_one (ps_for PassesOwn.never rfl (N8.pi_enumT (by rfl) M.enum (pa_cons (pe_ix ix_tup (pv 0) pe_int (fun _ _ => rfl)) pa_nil)) (pg_tup rfl (pgs_cons (pg_name (i := 1) scNeedWeb.nd rfl (Or.inl rfl)) (pgs_cons (pg_name (i := 2) scNeedWeb.nd rfl (Or.inl rfl)) pgs_nil))) (pss_one (ps_if (PW.pt (pw_or (pt_not (pt_val (pe_c C2 hr (by rfl) (pa_cons (pe_ix ix_tup (pv 0) pe_int (fun _ _ => rfl)) (pa_cons (pv 2) pa_nil))))) (pw_or1 (pt_cmpR (R8.op_inDT hu) (pv 2) (pe_slice sl_tupA (pe_ix ix_tup (pv 0) pe_int (fun _ _ => rfl)) po_none (po_some (pv 1))) (by rfl))))) (pss_one ps_never) pss_nil)))))))
      , ?_⟩
    have at0 : ∀ {H' : Hp}, Kp H H' → SqT K H' a [.int n, .ref b] := fun k => SqT.of (k.tup ha)
    refine ⟨_, rfl, _, _, _, _, true, rfl, .ty _, .base (.tup ha), kit_ty (by decide +kernel), _, rfl, iteF ?_⟩
    refine ⟨_, rfl, a, _, rfl, .inr (SqT.of ha), rfl, _, rfl, iteF ?_⟩
    refine ⟨_, rfl, a, _, _, _, rfl, rfl, SqT.of ha, atI_nat (j := 0) rfl, n, 1, 6, rfl, ?_⟩
    rw [decide_eq_true Wb.lo, decide_eq_true Wb.hi]
    refine ⟨_, rfl, iteF ?_⟩
    refine ⟨_, rfl, a, _, _, _, rfl, rfl, SqT.of ha, atI_nat (j := 1) rfl, _, _, _, _, true, rfl, .ty _, .base (.tup hA.tup), kit_ty (by decide +kernel), _, rfl, iteF ?_⟩
    refine ⟨_, rfl, a, _, _, _, rfl, rfl, SqT.of ha, atI_nat (j := 1) rfl, b, _, rfl, .inr (SqT.of hA.tup), _, _, rfl, rfl, _, rfl, ?_⟩
    have le12 : ((ps.map V.ref).length : Int) ≤ 12 := by
      rw [List.length_map, hA.len]
      have := Wb.few
      omega
    rw [decide_eq_false (show ¬ (12 : Int) < ((ps.map V.ref).length : Int) by omega)]
    refine iteF ?_
    refine ⟨_, rfl, a, _, _, _, rfl, rfl, SqT.of ha, atI_nat (j := 1) rfl, b, _, rfl, SqT.of hA.tup, for_it N8.walk_enumT (fun i σ H' => ∃ y1 y2, σ = [some (.ref a), y1, y2] ∧ Kp H H') ⟨none, none, rfl, Kp.refl H⟩ (fun i σ H' _ ⟨_, _, _, kp⟩ => SqT.of (kp.tup hA.tup)) ?_ ?_⟩
    · rintro i x σ H1 H2 hi ⟨y1, y2, rfl, kp⟩ ⟨T, z1, z2, rfl, nT, rfl, e1, e2⟩
      cases (Option.some.inj e1 : V.int (i : Nat) = z1)
      replace e2 : (ps.map V.ref)[i]? = some z2 := e2
      rw [List.getElem?_map] at e2
      have hi' : i < ps.length := by rw [List.length_map] at hi; exact hi
      rw [List.getElem?_eq_getElem hi'] at e2
      cases (Option.some.inj e2 : V.ref ps[i] = z2)
      obtain ⟨e, he, hp⟩ := hA.got (List.getElem?_eq_getElem hi')
      obtain ⟨u, v⟩ := e
      have kp2 := kp.new (o := .tup [.int (i : Nat), .ref ps[i]]) nT
      obtain ⟨hu1, hv1, huv⟩ := Wb.ok u v (List.mem_of_getElem? he)
      refine ⟨T, _, rfl, SqT.of upd_same, rfl, _, _, rfl, _, _, rfl, rfl, ?_⟩
      refine ⟨_, rfl, a, _, _, _, rfl, rfl, at0 kp2, atI_nat (j := 0) rfl, _, rfl, n, u, v, ps[i], rfl, kp2.tup hp, hu1, hv1, huv, tb.kp kp2, fun H3 k3 => ?_⟩
      have kp3 := kp2.trans k3
      refine ⟨_, rfl, iteF ?_⟩
      refine ⟨_, rfl, _, rfl, a, _, _, _, rfl, rfl, at0 kp3, atI_nat (j := 1) rfl, _, rfl, _, rfl, b, _, rfl, SqT.of (kp3.tup hA.tup), fun z => ?_, fun _ p np => ?_⟩
      · exfalso
        have z2 := z.2
        rw [HT.sIx_nat, List.length_map] at z2
        omega
      · have kp4 := kp3.new (o := .tup (cutV (ps.map V.ref) none (some (i : Int)))) np
        refine ⟨R8.prD (u, v), (A.take i).map R8.prD, dp_pair (kp4.tup hp), .tup (SqT.of upd_same) ?_, R8.prD_shaped _, R8.prDs_shapedT _, ?_⟩
        · have kp5 := kp4
          rw [cut_to, ← List.map_take] at kp5
          rw [cut_to, ← List.map_take]
          refine dp_pairs (by rw [List.length_take, List.length_take, hA.len]) fun k p' e' h1 h2 => ?_
          have hk : k < i := by
            have := (List.getElem?_eq_some_iff.mp h1).1
            rw [List.length_take] at this
            omega
          rw [List.getElem?_take_of_lt hk] at h1 h2
          exact kp5.tup (hA.at_ k p' e' h1 h2)
        · rw [R8.any_prD]
          have no : ¬ (u, v) ∈ A.take i := fun m => by
            obtain ⟨j, hj, ej⟩ := List.getElem_of_mem m
            rw [List.length_take] at hj
            have e1 : A[j]? = some (u, v) := by
              have h1 := List.getElem?_eq_getElem (l := A.take i) (i := j) (by rw [List.length_take]; exact hj)
              rw [ej, List.getElem?_take_of_lt (by omega)] at h1
              exact h1
            have := K84.nd_ix2 Wb.nd e1 he
            omega
          rw [decide_eq_false no]
          refine ⟨_, rfl, iteF ?_⟩
          exact ⟨_, _, rfl, kp4⟩
    · rintro σ H' ⟨_, _, _, kp⟩
      exact q H' kp
end
end B84
namespace B84
open PySem PySem.Spec PyProof.Rows L2 K84
abbrev kV0 (k : Nat) : V := .int (k : Int)
theorem off_tup {H : Hp} {T a : Addr} {xs : List V} (t : GxR.TabG H T) (h : H a = some (.tup xs)) : G8.off H T a = some (.tup xs) := by
  obtain ⟨ps, hp, _⟩ := t
  rw [G8.off_ne, h]
  intro e
  rw [e, hp] at h
  cases h
section
variable {P : Program} {w : World} {K : PySem.W.Frag} {mg : Str → Option Value} {base : Heap} {ts : List Addr}
def spIsLog (ts : List Addr) : Sp := fun vs H Q _ => ∃ (a b : Addr) (n : Int) (A : Arcs) (L : List Nat), vs = [.ref a, .ref b] ∧ WebH H a n A ∧ H b = some (.tup (L.map kV0)) ∧ L.length ≤ 60 ∧ (∀ k, k ∈ L → k < A.length) ∧ Tabs ts H ∧ ∀ H', Kp H H' → Q (.bl true) H'
theorem scIsLog : FnScope ["web", "value"] ["web", "value"] (defScope sIsLog) := ⟨rfl, rfl, rfl, by decide +kernel, rfl, by decide +kernel, by decide +kernel⟩
theorem ok_islog {f c T : Addr} {fd : FuncData} {k : Nat} (F : Fun K "is_log" "is_log" sIsLog f fd) (hc : fd.code = .ref c) (TB : GxR.TabB base mg c T) (hT : T ∈ ts) (M : Free mg) (J : IsIn K mg) : FnOk P w K mg base CX0 (k + 3) f fd ["web", "value"] (spIsLog ts) := by
  refine okT F hc scIsLog (fun vs H Q E h => ?_) (fun A' outer s H vs Q E hr h => ?_)
  · obtain ⟨_, _, _, _, _, rfl, _⟩ := h
    rfl
  · obtain ⟨a, b, n, A, L, rfl, ⟨b0, ps, ha, hA⟩, hb, hL, hlt, tb, q⟩ := h
    obtain ⟨t60, sixty⟩ := M.sixty
    refine ⟨_,
      ((pss_cons (ps_if (PW.pt (pw_or (pt_not (pt_val (pe_isi M (by rfl) (pv 1) (by rfl) M.tuple b_tuple))) (pw_or1 (pt_cmpR op_gt (pe_callB call_len_seq (by rfl) M.len PySem.boot_len (pa_cons (pv 1) pa_nil)) (pe_glob (v := .int 60) (by rfl) sixty ⟨_, rfl⟩) (nomark _))))) (pss_one (ps_ret pe_bl)) pss_nil)
      (pss_one (ps_ret (G8.pe_allG hr (by rfl) M.all_ TB rfl (gens_of rfl rfl (by decide +kernel) rfl rfl (by decide +kernel)) (pv 1))))))
      , ?_⟩
    refine ⟨_, rfl, _, _, _, _, true, rfl, .ty _, .base (.tup hb), kit_ty (by decide +kernel), _, rfl, iteF ?_⟩
    refine ⟨_, rfl, b, _, rfl, .inr (SqT.of hb), _, _, rfl, rfl, _, rfl, ?_⟩
    rw [decide_eq_false (show ¬ (60 : Int) < ((L.map kV0).length : Int) by rw [List.length_map]; omega)]
    refine iteF ?_
    refine ⟨_, rfl, _, _, G8.src_tup hb, tb T hT, ?_, fun H2 t2 => q H2 (Kp.tbd (tb T hT) t2)⟩
    obtain ⟨fi, fdi, mi, FI⟩ := J.ex
    intro B cenv t i y z ec py ry
    have hy : ∃ m : Nat, y = .int m ∧ m < A.length := by
      replace py : (L.map kV0)[i]? = some y := py
      rw [List.getElem?_map] at py
      obtain ⟨m, hm, e⟩ := Option.map_eq_some_iff.mp py
      exact ⟨m, e.symm, hlt m (List.mem_of_getElem? hm)⟩
    obtain ⟨m, rfl, hm⟩ := hy
    have hle : ((m : Nat) : Int) ≤ ((ps.map V.ref).length : Nat) - 1 := by
      rw [List.length_map, hA.len]
      omega
    exact ⟨.bl true, rfl, Q8.q_call ec.bs ec.env (by rw [ec.sc]; rfl) mi FI.kp ec.fit.hd (fit_lt ec hr) (qf_isin FI M.isi M.int_ M.bool_ (by omega) hle)
      (Q8.qa_cons (G8.ec_own ec rfl ry) (Q8.qa_cons Q8.q_int (Q8.qa_cons (Q8.q_sub (G8.ec_len ec.bs ec.env (by rw [ec.sc]; rfl) M.len ec.hok (off_tup (tb T hT) hA.tup)
        (G8.ec_item ec.hok (off_tup (tb T hT) ha) (G8.ec_cap (j := 0) ec rfl rfl rfl rfl) Q8.q_int (atI_nat (j := 1) rfl))) Q8.q_int) Q8.qa_nil)))⟩
def spNeedPerson : Sp := fun vs H Q _ => ∃ (a : Addr) (n r : Int) (A : Arcs), vs = [.ref a, .int r] ∧ WebH H a n A ∧ 1 ≤ r ∧ r ≤ n ∧ Q .non H
theorem scNeedPerson : FnScope ["web", "person"] ["web", "person"] (defScope sNeedPerson) := ⟨rfl, rfl, rfl, by decide +kernel, rfl, by decide +kernel, by decide +kernel⟩
theorem ok_needperson {f : Addr} {fd : FuncData} {k : Nat} (F : Fun K "need_person" "need_person" sNeedPerson f fd) (C1 : Cal P w K mg base "is_in" k ["value", "least", "most"] spIsIn) : FnOk P w K mg base CX0 (k + 1) f fd ["web", "person"] spNeedPerson := by
  refine F.ok scNeedPerson (fun vs H Q E h => ?_) (fun cdv A' outer s H vs Q E hr h => ?_)
  · obtain ⟨_, _, _, _, rfl, _⟩ := h
    rfl
  · obtain ⟨a, n, r, A, rfl, ⟨b0, ps, ha, hA⟩, h1, h2, q⟩ := h
    refine ⟨_,
      ((pss_one (ps_if (pt_not (pt_val (pe_c C1 hr (by rfl) (pa_cons (pv 1) (pa_cons pe_int (pa_cons (pe_ix ix_tup (pv 0) pe_int (fun _ _ => rfl)) pa_nil)))))) (pss_one ps_never) pss_nil)))
      , ?_⟩
    refine ⟨_, rfl, _, rfl, a, _, _, _, rfl, rfl, SqT.of ha, atI_nat (j := 0) rfl, r, 1, n, rfl, ?_⟩
    rw [decide_eq_true h1, decide_eq_true h2]
    exact ⟨_, rfl, iteF q⟩
def spPeople : Sp := fun vs H Q _ => ∃ (a : Addr) (n : Int) (A : Arcs), vs = [.ref a] ∧ WebH H a n A ∧ 1 ≤ n ∧ n ≤ 6 ∧ ∀ p H', Kp H H' → H' p = some (.tup ((pplI n).map V.int)) → Q (.ref p) H'
theorem scPeople : FnScope ["web"] ["web"] (defScope sPeople) := ⟨rfl, rfl, rfl, by decide +kernel, rfl, by decide +kernel, by decide +kernel⟩
theorem rg_ppl (n : Int) : rgV 1 (n + 1) = (pplI n).map V.int := by
  unfold rgV pplI
  rw [List.map_map]
  have e : (n + 1 - 1).toNat = n.toNat := by omega
  rw [e]
  refine List.map_congr_left fun i _ => ?_
  show V.int (1 + (i : Int)) = V.int ((i : Int) + 1)
  rw [Int.add_comm]
theorem ok_people {f : Addr} {fd : FuncData} {k : Nat} (F : Fun K "people" "people" sPeople f fd) (M : Free mg) : FnOk P w K mg base CX0 (k + 1) f fd ["web"] spPeople := by
  refine F.ok scPeople (fun vs H Q E h => ?_) (fun cdv A' outer s H vs Q E hr h => ?_)
  · obtain ⟨_, _, _, rfl, _⟩ := h
    rfl
  · obtain ⟨a, n, A, rfl, ⟨b0, ps, ha, hA⟩, h1, h2, q⟩ := h
    refine ⟨_, pss_one (ps_ret (pe_tupRg rfl (by rfl) M.tuple (prg_2 (by rfl) M.range pe_int (pe_op op_add (pe_ix ix_tup (pv 0) pe_int (fun _ _ => rfl)) pe_int)))), ?_⟩
    refine ⟨_, rfl, a, _, _, _, rfl, rfl, SqT.of ha, atI_nat (j := 0) rfl, _, _, rfl, rfl, 1, n + 1, rfl, rfl, RgOk.of_le (by omega) (by omega) (by omega) (by omega), fun p np => ?_⟩
    rw [rg_ppl]
    exact q p _ (Kp.upd np) upd_same
def spTaken : Sp := fun vs H Q _ => ∃ (a c : Addr) (n : Int) (A : Arcs) (ms : List Int) (k : Nat), vs = [.ref a, .ref c, .int (k : Int)] ∧ WebH H a n A ∧ Web n A ∧ H c = some (.tup (ms.map V.int)) ∧ ms.length = n.toNat ∧ k < A.length ∧ ∀ p H', Kp H H' → H' p = some (.tup ((tkn A ms k).map V.int)) → Q (.ref p) H'
theorem scTaken : FnScope ["web", "some", "index", "source", "goal"] ["web", "some", "index"] (defScope sTaken) := ⟨rfl, rfl, rfl, by decide +kernel, rfl, by decide +kernel, by decide +kernel⟩
theorem cut_from {xs : List V} {i : Nat} : cutV xs (some (i : Int)) none = xs.drop i := by
  unfold cutV
  rw [HT.sIx_none, HT.sIx_nat]
  by_cases h : i ≤ xs.length
  · rw [Nat.min_eq_left h, List.take_of_length_le (by rw [List.length_drop]; omega)]
  · rw [Nat.min_eq_right (by omega), Nat.sub_self, List.take_zero, List.drop_of_length_le (by omega)]
theorem set_cut {α : Type} {l : List α} {i : Nat} {x : α} (h : i < l.length) : l.take i ++ x :: l.drop (i + 1) = l.set i x := (List.set_eq_take_append_cons_drop).trans (if_pos h) |>.symm
theorem rd_slA {H : Hp} {a : Addr} {xs : List V} {lo hi : Option Int} {Q : VK} (ha : H a = some (.tup xs)) (q : ∀ p H', Kp H H' → H' p = some (.tup (cutV xs lo hi)) → Q (.ref p) H') : rSlA K (.ref a) lo hi H Q := by
  refine ⟨a, xs, rfl, SqT.of ha, fun z => q a H (Kp.refl H) ?_, fun _ p np => q p _ (Kp.upd np) upd_same⟩
  rw [ha]
  unfold cutV
  rw [z.1, z.2, List.drop_zero, Nat.sub_zero, List.take_length]
theorem ok_taken {f : Addr} {fd : FuncData} {k : Nat} (F : Fun K "taken" "taken" sTaken f fd) (M : Free mg) : FnOk P w K mg base CX0 (k + 1) f fd ["web", "some", "index"] spTaken := by
  refine F.ok scTaken (fun vs H Q E h => ?_) (fun cdv A' outer s H vs Q E hr h => ?_)
  · obtain ⟨_, _, _, _, _, _, rfl, _⟩ := h
    rfl
  · obtain ⟨a, c, n, A, ms, k, rfl, ⟨b0, ps, ha, hA⟩, Wb, hc, hl, hk, q⟩ := h
    obtain ⟨⟨u, v⟩, e⟩ : ∃ x, A[k]? = some x := ⟨_, List.getElem?_eq_getElem hk⟩
    obtain ⟨pa, hp, hpa⟩ := hA.get e
    obtain ⟨hu, hv, huv⟩ := Wb.ok u v (List.mem_of_getElem? e)
    obtain ⟨i, hi⟩ : ∃ i : Nat, u = (i : Int) + 1 := ⟨(u - 1).toNat, by omega⟩
    obtain ⟨j, hj⟩ : ∃ j : Nat, v = (j : Int) + 1 := ⟨(v - 1).toNat, by omega⟩
    have hix : i < ms.length := by rw [hl]; omega
    have hjx : j < ms.length := by rw [hl]; omega
    have len6 : ms.length ≤ 6 := by have := Wb.hi; rw [hl]; omega
    have et : tkn A ms k = ms.take j ++ ms.getD i 0 :: ms.drop (j + 1) := by
      unfold tkn
      rw [e]
      show ms.set (v - 1).toNat (ms.getD (u - 1).toNat 0) = _
      rw [show (v - 1).toNat = j by omega, show (u - 1).toNat = i by omega, set_cut hjx]
    refine ⟨_,
      ((pss_cons (ps_asg (pe_ix ix_tup (pe_ix ix_tup (pv 0) pe_int (fun _ _ => rfl)) (pv 2) (fun _ _ => rfl)) (pg_tup rfl (pgs_cons (pg_name (i := 3) scTaken.nd rfl (Or.inl rfl)) (pgs_cons (pg_name (i := 4) scTaken.nd rfl (Or.inl rfl)) pgs_nil))))
      (pss_one (ps_ret (pe_tup (StX.pa_star (pe_slice sl_tupA (pv 1) po_none (po_some (pe_op op_sub (pv 4) pe_int))) (pa_cons (pe_ix ix_tup (pv 1) (pe_op op_sub (pv 3) pe_int) (fun _ _ => rfl)) (StX.pa_star (pe_slice sl_tupA (pv 1) (po_some (pv 4)) po_none) pa_nil))))))))
      , ?_⟩
    refine ⟨_, rfl, a, _, _, _, rfl, rfl, SqT.of ha, atI_nat (j := 1) rfl, _, rfl, b0, _, _, _, rfl, rfl, SqT.of hA.tup, atI_nat (j := k) (by rw [List.getElem?_map, hp]; rfl), pa, _, rfl, SqT.of hpa, rfl, _, _, rfl, _, _, rfl, rfl, ?_⟩
    have fin : ∀ {H1 : Hp} {xs ys : List V} {p1 p2 : Addr}, Kp H H1 → xs = (ms.take j).map V.int → ys = (ms.drop (j + 1)).map V.int → (xs ++ V.int (ms.getD i 0) :: (ys ++ [])).length ≤ sizeLine ∧ ∀ p, H1 p = none → Q (.ref p) (upd H1 p (.tup (xs ++ V.int (ms.getD i 0) :: (ys ++ [])))) := by
      intro H1 xs ys p1 p2 kp ex ey
      have ee : xs ++ V.int (ms.getD i 0) :: (ys ++ []) = (tkn A ms k).map V.int := by
        rw [ex, ey, et, List.map_append, List.map_cons, List.append_nil]
      rw [ee]
      refine ⟨?_, fun p np => q p _ (kp.new np) upd_same⟩
      rw [List.length_map, tkn_len]
      rw [sizeLine_eq]
      omega
    refine ⟨_, rfl, _, rfl, _, _, rfl, rfl, _, rfl, rd_slA hc fun p1 H1 kp1 hp1 => ⟨p1, _, rfl, .inl (SqT.of hp1), ?_⟩⟩
    refine ⟨_, rfl, _, rfl, _, _, rfl, rfl, c, _, _, _, rfl, rfl, SqT.of (kp1.tup hc), (?_ : atI _ _ = some (V.int (ms.getD i 0))), ?_⟩
    · show atI _ (u - 1) = _
      rw [show u - 1 = (i : Int) by omega]
      refine atI_nat ?_
      rw [List.getElem?_map, K84.some_getD hix]
      rfl
    refine ⟨_, rfl, _, rfl, _, rfl, ?_⟩
    unfold tNoPart
    refine rd_slA (kp1.tup hc) fun p2 H2 kp2 hp2 => ⟨p2, _, rfl, .inl (SqT.of hp2), ?_⟩
    refine fin (p1 := 0) (p2 := 0) (kp1.trans kp2) ?_ ?_
    · show cutV _ none (some (v - 1)) = _
      rw [show v - 1 = (j : Int) by omega, cut_to, List.map_take]
    · show cutV _ (some v) none = _
      rw [show v = ((j + 1 : Nat) : Int) by omega, cut_from, List.map_drop]
def spBehind : Sp := fun vs H Q _ => ∃ (a c b : Addr) (n : Int) (A : Arcs) (ms : List Int) (L : List Nat), vs = [.ref a, .ref c, .ref b] ∧ WebH H a n A ∧ Web n A ∧ H c = some (.tup (ms.map V.int)) ∧ ms.length = n.toNat ∧ H b = some (.tup (L.map kV0)) ∧ (∀ k, k ∈ L → k < A.length) ∧ ∀ p H', Kp H H' → H' p = some (.tup ((beh A ms L).map V.int)) → Q (.ref p) H'
theorem scBehind : FnScope ["web", "some", "log", "index"] ["web", "some", "log"] (defScope sBehind) := ⟨rfl, rfl, rfl, by decide +kernel, rfl, by decide +kernel, by decide +kernel⟩
theorem ok_behind {f : Addr} {fd : FuncData} {k : Nat} (F : Fun K "behind" "behind" sBehind f fd) (C1 : Cal P w K mg base "taken" k ["web", "some", "index"] spTaken) : FnOk P w K mg base CX0 (k + 1) f fd ["web", "some", "log"] spBehind := by
  refine F.ok scBehind (fun vs H Q E h => ?_) (fun cdv A' outer s H vs Q E hr h => ?_)
  · obtain ⟨_, _, _, _, _, _, _, rfl, _⟩ := h
    rfl
  · obtain ⟨a, c, b, n, A, ms, L, rfl, hw, Wb, hc, hl, hb, hlt, q⟩ := h
    refine ⟨_,
      ((pss_cons (ps_for PassesOwn.never rfl (pi_tup (pv 2)) (pg_name (i := 3) scBehind.nd rfl (Or.inl rfl)) (pss_one (ps_set (i := 1) scBehind.nd rfl (Or.inl rfl) (pe_c C1 hr (by rfl) (pa_cons (pv 0) (pa_cons (pv 1) (pa_cons (pv 3) pa_nil)))))))
      (pss_one (ps_ret (pv 1)))))
      , ?_⟩
    refine ⟨_, rfl, b, rfl, ⟨_, SqT.of hb⟩, ?_⟩
    refine for_it walk_tup (fun i σ H' => ∃ p y, σ = [some (.ref a), some (.ref p), some (.ref b), y] ∧ Kp H H' ∧ H' p = some (.tup ((beh A ms (L.take i)).map V.int))) ⟨c, none, rfl, Kp.refl H, hc⟩ (fun i σ H1 _ ⟨_, _, _, kp, _⟩ => SqT.of (kp.tup hb)) ?_ ?_
    · rintro i x σ H1 H2 hi ⟨p, y, rfl, kp, hp⟩ ⟨rfl, hx⟩
      rw [List.getElem?_map] at hx
      obtain ⟨m, hm, rfl⟩ := Option.map_eq_some_iff.mp hx
      refine ⟨_, rfl, _, rfl, _, rfl, a, p, n, A, _, m, rfl, hw.kp kp, Wb, hp, by rw [beh_len]; exact hl, hlt m (List.mem_of_getElem? hm), fun p2 H2 kp2 hp2 => ?_⟩
      refine ⟨p2, _, rfl, kp.trans kp2, ?_⟩
      rw [List.take_add_one, hm]
      show H2 p2 = some (.tup ((beh A ms (L.take i ++ [m])).map V.int))
      rw [beh_snoc]
      exact hp2
    · rintro σ H' ⟨p, y, rfl, kp, hp⟩
      refine ⟨_, rfl, q p H' kp ?_⟩
      rw [List.length_map, List.take_length] at hp
      exact hp
end
end B84
namespace B84
open PySem PySem.Spec PyProof.Rows L2 K84
/-! hearers -/
abbrev kd (Ks : List Int) : List (Key × V) := Ks.map fun x => ((.inl x : Key), V.bl true)
theorem kd_val (y : Int) : ∀ Ks : List Int, valV (kd Ks) (.inl y) = if y ∈ Ks then some (V.bl true) else none
  | [] => rfl
  | x :: r => by
    by_cases e : x = y
    · subst e
      rw [if_pos List.mem_cons_self]
      exact valV_pos (p := ((.inl x : Key), V.bl true)) rfl
    · have e' : ¬ ((.inl x : Key), V.bl true).1 = (.inl y : Key) := fun z => e (Sum.inl.inj z)
      show valV (((.inl x : Key), V.bl true) :: kd r) (.inl y) = _
      rw [valV_neg e', kd_val y r]
      have h : (y ∈ x :: r) ↔ y ∈ r := by
        rw [List.mem_cons]
        exact ⟨fun z => z.resolve_left fun q => e q.symm, .inr⟩
      simp only [h]
theorem kd_none {y : Int} {Ks : List Int} (h : ¬ y ∈ Ks) : valV (kd Ks) (.inl y) = none := by rw [kd_val, if_neg h]
theorem kd_put {y : Int} {Ks : List Int} (h : ¬ y ∈ Ks) : putK (kd Ks) (.inl y) (V.bl true) = kd (Ks ++ [y]) := by
  rw [putK_new _ (kd_none h)]
  show _ = (Ks ++ [y]).map _
  rw [List.map_append]
  rfl
theorem int_flat (xs : List Int) : (xs.map V.int).all flatV = true := by
  rw [List.all_map]
  exact List.all_eq_true.mpr fun _ _ => rfl
theorem int_in (y : Int) (xs : List Int) : inV (.int y) (xs.map V.int) = decide (y ∈ xs) := by
  unfold inV
  rw [List.any_map]
  rw [Bool.eq_iff_iff]
  rw [List.any_eq_true, decide_eq_true_iff]
  constructor
  · rintro ⟨x, hx, e⟩
    have : x = y := by simpa [eqV] using e
    rw [← this]
    exact hx
  · intro h
    exact ⟨y, h, by simp [eqV]⟩
theorem rch_in {n r : Int} {A : Arcs} {E : Int → Int → Prop} (hA : ∀ u v, (u, v) ∈ A → (1 ≤ u ∧ u ≤ n) ∧ 1 ≤ v ∧ v ≤ n) (hE : ∀ x y, E x y → (x, y) ∈ A ∨ (y, x) ∈ A) (h1 : 1 ≤ r ∧ r ≤ n) {x : Int} (h : Rch E r x) : 1 ≤ x ∧ x ≤ n := by
  induction h with
  | refl => exact h1
  | step _ e ih =>
    rcases hE _ _ e with q | q
    · exact (hA _ _ q).2
    · exact (hA _ _ q).1
/-- a dict comprehension over a list that stays -/
theorem dc_it {J : It} {n : Nat} {G : Hp → Prop} {Y : Nat → Hp → V → Hp → Prop} (w : Walk J n G Y) {g : TG} {tt : TT} {tk tv : TE} {vs : List Nat} {σ : L2.St} {H1 : Hp} {D : Addr} {Qd : Hp → Prop} (Pv : Nat → Hp → Prop) (h0 : Pv 0 (L2.upd H1 D (.dK []))) (hG : ∀ i H, i ≤ n → Pv i H → G H)
    (hs : ∀ i x H H', i < n → Pv i H → Y i H x H' → g x (wipe σ vs) H' fun σ2 H2 => wipe σ2 vs = wipe σ vs ∧ tt σ2 H2 fun b H3 =>
      if b = true then tk σ2 H3 fun y H4 => tv σ2 H4 fun z H5 => ∃ kvs k, y = kV k ∧ H5 D = some (.dK kvs) ∧ kvs.length < sizeLine ∧ Pv (i + 1) (L2.upd H5 D (.dK (putK kvs k z))) else Pv (i + 1) H3) (hd : ∀ H, Pv n H → Qd H) :
    ∃ W : Nat → Nat → Hp → Prop, (∃ m, W 0 m (L2.upd H1 D (.dK []))) ∧ ∀ i m H, W i m H →
      (J.stop i H ∧ Qd H) ∨ (J.go i H ∧ ∃ Nx : Hp → Prop, (∀ H', Nx H' → ∃ m', m' < m ∧ W (i + 1) m' H') ∧ ∀ x H', J.yld i H x H' → g x (wipe σ vs) H' fun σ2 H2 => wipe σ2 vs = wipe σ vs ∧ tt σ2 H2 fun b H3 =>
        if b = true then tk σ2 H3 fun y H4 => tv σ2 H4 fun z H5 => ∃ kvs k, y = kV k ∧ H5 D = some (.dK kvs) ∧ kvs.length < sizeLine ∧ Nx (L2.upd H5 D (.dK (putK kvs k z))) else Nx H3) := by
  refine ⟨fun i m H => m = n - i ∧ i ≤ n ∧ Pv i H, ⟨n, by simp, Nat.zero_le _, h0⟩, ?_⟩
  rintro i m H ⟨rfl, hi, p⟩
  have q := hG i H hi p
  by_cases hlt : i < n
  · exact .inr ⟨w.goes i H hlt q, Pv (i + 1), fun H' p' => ⟨n - (i + 1), by omega, rfl, hlt, p'⟩, fun x H' y => hs i x H H' hlt p (w.yields i H x H' hlt q y)⟩
  · have e : i = n := by omega
    subst e
    exact .inl ⟨w.stops H q, hd H p⟩
section
variable {P : Program} {w : World} {K : PySem.W.Frag} {mg : Str → Option Value} {base : Heap} {ts : List Addr}
def InR (n : Int) (A : Arcs) : Prop := ∀ u v, (u, v) ∈ A → (1 ≤ u ∧ u ≤ n) ∧ 1 ≤ v ∧ v ≤ n
def spHearers : Sp := fun vs H Q _ => ∃ (a b : Addr) (n r : Int) (A : Arcs), vs = [.ref a, .ref b] ∧ WebH H a n A ∧ InR n A ∧ (1 ≤ r ∧ r ≤ n) ∧ n ≤ 6 ∧ H b = some (.lst [.int r]) ∧
  ∀ D H' (kvs : List (Key × V)), Kp H H' → H' D = some (.dK kvs) → ((kvs.length : Int) ≤ n ∧ ((kvs.length : Int) = n ↔ ∀ v, 1 ≤ v → v ≤ n → Rch (fun x y => (x, y) ∈ A) r v)) → Q (.ref D) H'
theorem scHearers : FnScope ["web", "begin", "seen", "rows", "more", "source", "goal", "one"] ["web", "begin"] (defScope sHearers) := ⟨rfl, rfl, rfl, by decide +kernel, rfl, by decide +kernel, by decide +kernel⟩
def HW (H : Hp) (A : Arcs) (n r : Int) (a b D : Addr) (m : Nat) (σ : L2.St) (H' : Hp) : Prop := ∃ rw Ks rows y4 y5 y6 y7, σ = [some (.ref a), some (.ref b), some (.ref D), some (.ref rw), y4, y5, y6, y7] ∧ Kp H H' ∧ H' D = some (.dK (kd Ks)) ∧ H' rw = some (.lst (rows.map V.int)) ∧ Bfs (fun j x y => A[j]? = some (x, y)) r Ks rows [] 0 ∧ m = mu n Ks rows
theorem ok_hearers {f : Addr} {fd : FuncData} {k : Nat} (F : Fun K "hearers" "hearers" sHearers f fd) (M : Free mg) : FnOk P w K mg base CX0 (k + 1) f fd ["web", "begin"] spHearers := by
  refine F.ok scHearers (fun vs H Q E h => ?_) (fun cdv A' outer s H vs Q E hr h => ?_)
  · obtain ⟨_, _, _, _, _, rfl, _⟩ := h
    rfl
  · obtain ⟨a, b, n, r, A, rfl, ⟨b0, ps, ha, hA⟩, ir, hr1, hn6, hb, q⟩ := h
    have hu1 : (A'.deeper (envOfC "hearers" (defScope sHearers) s.heap.objs.size f cdv)).units + 1 < cLine := by
      have := hr.un
      omega
    refine ⟨_,
      ((pss_cons (ps_par (i := 2) (j := 3) rfl scHearers.nd rfl rfl (by decide) rfl rfl (pa_cons (pe_dc (own := [("one", 7)]) rfl scHearers.nd (pi_list (pv 1)) (blkOk_by (own := [("one", 7)]) (N := ["web", "begin", "seen", "rows", "more", "source", "goal", "one"]) (sc := defScope sHearers) (by decide +kernel)) (fun _ _ _ _ _ => (pg_name (i := 7) scHearers.nd rfl (Or.inl rfl))) (fun _ _ _ _ _ => pts_nil) (fun _ _ _ _ _ => (pv 7)) (fun _ _ _ _ _ => pe_bl)) (pa_cons (pe_callTy call_list_of (by rfl) M.list b_list (pa_cons (pv 1) pa_nil)) pa_nil)) (by rfl))
      (pss_cons (ps_while PassesOwn.never (pt_truth (pv 3) (by intro _; rfl)) (pss_cons (ps_set (i := 4) scHearers.nd rfl (Or.inl rfl) (pe_lst pa_nil))
      (pss_cons (ps_for PassesOwn.never rfl (pi_tup (pe_ix ix_tup (pv 0) pe_int (fun _ _ => rfl))) (pg_tup rfl (pgs_cons (pg_name (i := 5) scHearers.nd rfl (Or.inl rfl)) (pgs_cons (pg_name (i := 6) scHearers.nd rfl (Or.inl rfl)) pgs_nil))) (pss_one (ps_if (PW.pt (pw_and (pt_cmpR op_in_seq (pv 5) (pv 3) (by rfl)) (pw_and1 (pt_cmp (pc_dnotin hu1 (pv 6) (pv 2)))))) (pss_cons (ps_dput hu1 (pv 2) (pv 6) pe_bl (by rfl))
      (pss_one (ps_expr (pe_bm PySem.F.plainAttrs_list PySem.F.slot_list_append PySem.F.type_list_append mt_append (pv 4) (pa_cons (pv 6) pa_nil))))) pss_nil)))
      (pss_one (ps_set (i := 3) scHearers.nd rfl (Or.inl rfl) (pv 4))))))
      (pss_one (ps_ret (pv 2))))))
      , ?_⟩
    have hin : ∀ {x : Int}, Rch (Er fun j x y => A[j]? = some (x, y)) r x → 1 ≤ x ∧ x ≤ n := fun h => rch_in ir (fun x y ⟨j, e⟩ => .inl (List.mem_of_getElem? e)) hr1 h
    refine ⟨_, rfl, b, rfl, ⟨_, SqL.of hb⟩, fun D nD => dc_it walk_list (fun i H' => H' = upd H D (.dK (kd ([r].take i)))) rfl (fun i H' _ e => by rw [e]; exact (Kp.upd nD).sql (SqL.of hb)) ?_ ?_⟩
    · rintro i x H1 H2 hi rfl ⟨rfl, hx⟩
      have hi0 : i = 0 := Nat.lt_one_iff.mp hi
      subst hi0
      cases (Option.some.inj hx : V.int r = x)
      refine ⟨rfl, ?_⟩
      unfold tYes
      refine iteT ⟨_, rfl, kd [], .inl r, rfl, upd_same, by rw [sizeLine_eq]; decide, ?_⟩
      rw [upd_upd]
      rfl
    rintro H0 rfl
    have nb : b ≠ D := ne_of_none hb nD
    refine ⟨_, rfl, b, [V.int r], rfl, .inl (SqL.of (by rw [upd_ne nb]; exact hb)), fun l nl => ?_⟩
    have lD : l ≠ D := fun e => by
      rw [e, upd_same] at nl
      cases nl
    refine ⟨_, _, rfl, HW H A n r a b D, ?_, ?_⟩
    · refine ⟨_, l, [r], [r], none, none, none, none, rfl, ((Kp.upd nD).new nl), ?_, upd_same, Bfs.begin _ _, rfl⟩
      rw [upd_ne lD.symm, upd_same]
      rfl
    rintro m σ H1 ⟨rw, Ks, rows, y4, y5, y6, y7, rfl, kp, hD, hrw, B, rfl⟩
    refine ⟨_, rfl, _, .inl ⟨_, SqL.of hrw, rfl⟩, ?_⟩
    by_cases em : rows = []
    · subst em
      refine iteF ⟨_, rfl, q D H1 (kd Ks) kp hD ?_⟩
      have h := nd_all (n := n) (l := Ks) (by omega) B.nd1 fun x hx => hin ((B.done x).mp hx)
      rw [List.length_map]
      refine ⟨h.1, h.2.trans ?_⟩
      have e : ∀ v, v ∈ Ks ↔ Rch (fun x y => (x, y) ∈ A) r v := fun v => (B.done v).trans ⟨fun h => h.mono fun x y ⟨j, e⟩ => List.mem_of_getElem? e, fun h => h.mono fun x y m => List.mem_iff_getElem?.mp m⟩
      exact ⟨fun z v h1 h2 => (e v).mp (z v h1 h2), fun z v h1 h2 => (e v).mpr (z v h1 h2)⟩
    have nE : (!(rows.map V.int).isEmpty) = true := by
      cases rows with
      | nil => exact absurd rfl em
      | cons _ _ => rfl
    rw [nE]
    refine iteT ⟨fun σ' H' => ∃ m', m' < mu n Ks rows ∧ HW H A n r a b D m' σ' H', fun _ _ h => h, ?_⟩
    refine ⟨by rw [sizeLine_eq]; decide, fun mo nmo => ?_⟩
    have moD : D ≠ mo := ne_of_none hD nmo
    have morw : rw ≠ mo := ne_of_none hrw nmo
    have Drw : D ≠ rw := fun e => by
      rw [e, hrw] at hD
      cases hD
    refine ⟨_, rfl, a, _, _, _, rfl, rfl, SqT.of ((kp.new nmo).tup ha), atI_nat (j := 1) rfl, b0, rfl, ⟨_, SqT.of ((kp.new nmo).tup hA.tup)⟩, ?_⟩
    refine for_it walk_tup (fun i σ H2 => ∃ more y5 y6 y7, σ = [some (.ref a), some (.ref b), some (.ref D), some (.ref rw), some (.ref mo), y5, y6, y7] ∧ Kp H H2 ∧ H2 D = some (.dK (kd (Ks ++ more))) ∧ H2 rw = some (.lst (rows.map V.int)) ∧ H2 mo = some (.lst (more.map V.int)) ∧ Bfs (fun j x y => A[j]? = some (x, y)) r Ks rows more i) ?_ (fun i σ H1 _ ⟨_, _, _, _, _, kp, _⟩ => SqT.of (kp.tup hA.tup)) ?_ ?_
    · refine ⟨[], _, _, _, rfl, kp.new nmo, ?_, ?_, upd_same, B⟩
      · rw [upd_ne moD, List.append_nil]
        exact hD
      · rw [upd_ne morw]
        exact hrw
    · rintro i x σ H2 H3 hi ⟨more, z5, z6, z7, rfl, kp2, hD2, hr2, hm2, B2⟩ ⟨rfl, hx⟩
      rw [List.getElem?_map] at hx
      obtain ⟨p, hp, rfl⟩ := Option.map_eq_some_iff.mp hx
      obtain ⟨⟨u, v⟩, he, hpp⟩ := hA.got hp
      refine ⟨p, _, rfl, SqT.of (kp2.tup hpp), rfl, _, _, rfl, _, _, rfl, rfl, ?_⟩
      refine ⟨_, rfl, _, rfl, rw, _, rfl, .inl (SqL.of hr2), rfl, int_flat _, ?_⟩
      have q1 : (if false = true then !inV (V.int u) (rows.map V.int) else inV (V.int u) (rows.map V.int)) = decide (u ∈ rows) := int_in u rows
      have q2 : (valV (kd (Ks ++ more)) (.inl v)).isSome = decide (v ∈ Ks ++ more) := by
        rw [kd_val]
        by_cases h : v ∈ Ks ++ more
        · rw [if_pos h, decide_eq_true h]
          rfl
        · rw [if_neg h, decide_eq_false h]
          rfl
      rw [q1]
      have un : ∀ x' y', A[i]? = some (x', y') → x' = u ∧ y' = v := fun x' y' e => by
        rw [he] at e
        cases e
        exact ⟨rfl, rfl⟩
      refine ⟨_, rfl, ?_⟩
      by_cases hu : u ∈ rows
      · rw [decide_eq_true hu]
        refine iteT ⟨_, rfl, _, rfl, D, _, rfl, DGet.k (k := .inl v) hD2, _, rfl, ?_⟩
        rw [q2]
        by_cases hv : v ∈ Ks ++ more
        · rw [decide_eq_true hv]
          refine iteF ⟨more, _, _, _, rfl, kp2, hD2, hr2, hm2, B2.skip fun x y e hx => ?_⟩
          rw [(un x y e).2]
          exact hv
        · rw [decide_eq_false hv]
          have B3 := B2.add he un hu hv
          have moD2 : mo ≠ D := fun e => by
            rw [e, hD2] at hm2
            cases hm2
          have rwmo : rw ≠ mo := morw
          have small : (Ks ++ more ++ [v]).length ≤ 6 := by
            have := nd_len (k := pplI n) (by have := B3.nd; rw [← List.append_assoc] at this; exact this) fun x hx => mem_ppl.mpr (hin (B3.reach x (by rw [← List.append_assoc]; exact hx)))
            rw [len_ppl] at this
            omega
          rw [List.length_append, List.length_append, List.length_singleton] at small
          refine iteT ⟨_, rfl, _, rfl, D, _, rfl, DPut.k (k := .inl v) hD2 (by rw [List.length_map, List.length_append, sizeLine_eq]; omega), ?_⟩
          have hm3 : upd H3 D (.dK (putK (kd (Ks ++ more)) (.inl v) (V.bl true))) mo = some (.lst (more.map V.int)) := by
            rw [upd_ne moD2]
            exact hm2
          refine ⟨_, rfl, .inl ⟨rfl, _, SqL.of hm3⟩, _, rfl, mo, _, _, rfl, rfl, hm3, by rw [List.length_map, sizeLine_eq]; omega, ?_⟩
          refine ⟨more ++ [v], _, _, _, rfl, (kp2.mut nD).mut (kp.free nmo), ?_, ?_, ?_, B3⟩
          · rw [upd_ne moD, upd_same, kd_put hv, List.append_assoc]
          · rw [upd_ne morw, upd_ne Drw.symm]
            exact hr2
          · rw [upd_same, List.map_append]
            rfl
      · rw [decide_eq_false hu]
        refine iteF (iteF ⟨more, _, _, _, rfl, kp2, hD2, hr2, hm2, B2.skip fun x y e hx => ?_⟩)
        exact absurd (by rw [← (un x y e).1]; exact hx) hu
    · rintro σ H2 ⟨more, z5, z6, z7, rfl, kp2, hD2, hr2, hm2, B2⟩
      have hall : ∀ x, x ∈ Ks ++ more → 1 ≤ x ∧ x ≤ n := fun x hx => hin (B2.reach x hx)
      refine ⟨_, rfl, _, mu_falls B2 em hall, mo, Ks ++ more, more, _, _, _, _, rfl, kp2, hD2, hm2, B2.next fun j x y e => ?_, rfl⟩
      have := (List.getElem?_eq_some_iff.mp e).1
      rw [List.length_map, hA.len]
      exact this
end
end B84
namespace B84
open PySem PySem.Spec PyProof.Rows L2 K84
theorem ixT {X : Cx} {K : PySem.W.Frag} (h : X.K = K := by rfl) : IxR X (rIxT K) := by subst h; exact ix_tup
theorem ixL {X : Cx} {K : PySem.W.Frag} (h : X.K = K := by rfl) : IxR X (rIxL K) := by subst h; exact ix_list
theorem inS {X : Cx} {K : PySem.W.Frag} (h : X.K = K := by rfl) : OpR X (compareOp .In) (rIn K false) := by subst h; exact op_in_seq
theorem notInS {X : Cx} {K : PySem.W.Frag} (h : X.K = K := by rfl) : OpR X (compareOp .NotIn) (rIn K true) := by subst h; exact op_notIn_seq
theorem pgT {X : Cx} {K : PySem.W.Frag} {es : List Expr} {k n : Nat} {t : TGs} {pos : Pos} (hc : X.calm = true) (h : PGs X es t) (hK : X.K = K := by rfl)
    (hn : (assignEach es X.env).length = n := by rfl) (hst : (assignEach es X.env).findIdx? (·.1) = none := by rfl) : PG X (.Tuple es k pos) (gTup K n t) := by subst hK; exact pg_tup hc h hn hst
theorem take_flt {α : Type} (p : α → Bool) {l : List α} {i : Nat} {x : α} (h : l[i]? = some x) : (l.take (i + 1)).filter p = (l.take i).filter p ++ if p x = true then [x] else [] := by
  rw [List.take_add_one, h, List.filter_append]
  show _ ++ [x].filter p = _
  rw [List.filter_cons, List.filter_nil]
section
variable {P : Program} {w : World} {K : PySem.W.Frag} {mg : Str → Option Value} {base : Heap} {ts : List Addr}
def spWinnersOf : Sp := fun vs H Q _ => ∃ (a : Addr) (n : Int) (A : Arcs), vs = [.ref a] ∧ WebH H a n A ∧ Web n A ∧ ∀ p H', Kp H H' → H' p = some (.lst ((wins n A).map V.int)) → Q (.ref p) H'
theorem Web.inR {n : Int} {A : Arcs} (W : Web n A) : InR n A := fun u v m => ⟨(W.ok u v m).1, (W.ok u v m).2.1⟩
theorem scWinnersOf : FnScope ["web", "one"] ["web"] (defScope sWinnersOf) := ⟨rfl, rfl, rfl, by decide +kernel, rfl, by decide +kernel, by decide +kernel⟩
theorem ok_winnersof {f : Addr} {fd : FuncData} {k : Nat} (F : Fun K "winners_of" "winners_of" sWinnersOf f fd) (M : Free mg) (CP : Cal P w K mg base "people" k ["web"] spPeople) (CH : Cal P w K mg base "hearers" k ["web", "begin"] spHearers) : FnOk P w K mg base CX0 (k + 1) f fd ["web"] spWinnersOf := by
  refine F.ok scWinnersOf (fun vs H Q E h => ?_) (fun cdv A' outer s H vs Q E hr h => ?_)
  · obtain ⟨_, _, _, rfl, _⟩ := h
    rfl
  · obtain ⟨a, n, A, rfl, hw, Wb, q⟩ := h
    have h1 := Wb.lo
    have h6 := Wb.hi
    refine ⟨_,
      ((pss_one (ps_ret (pe_lc (own := [("one", 1)]) rfl scWinnersOf.nd (pi_tup (pe_c CP hr (by rfl) (pa_cons (pv 0) pa_nil))) (blkOk_by (own := [("one", 1)]) (N := ["web", "one"]) (sc := defScope sWinnersOf) (by decide +kernel)) (fun _ _ _ _ _ => (pg_name (i := 1) scWinnersOf.nd rfl (Or.inl rfl))) (fun _ _ _ _ _ => (pts_one (pt_cmpR op_eq (pe_callB call_lenD (by rfl) M.len PySem.boot_len (pa_cons (pe_c CH hr (by rfl) (pa_cons (pv 0) (pa_cons (pe_lst (pa_cons (pv 1) pa_nil)) pa_nil))) pa_nil)) (pe_ix (ixT (K := K)) (pv 0) pe_int (fun _ _ => rfl)) (nomark _)))) (fun _ _ _ _ _ => (pv 1))))))
      , ?_⟩
    refine ⟨_, rfl, a, n, A, rfl, hw, h1, h6, fun pp H1 kp1 hpp => ⟨pp, rfl, ⟨_, SqT.of hpp⟩, fun D nD => ?_⟩⟩
    refine lc_it walk_tup (fun i H' => Kp H1 H' ∧ H' D = some (.lst ((((pplI n).take i).filter fun r => tr (Wins n A r)).map V.int))) ⟨Kp.upd nD, upd_same⟩ (fun i H' _ ⟨kp, _⟩ => SqT.of (kp.tup hpp)) ?_ ?_
    · rintro i x H2 H3 hi ⟨kp2, hD⟩ ⟨rfl, hx⟩
      rw [List.getElem?_map] at hx
      obtain ⟨r, hr0, rfl⟩ := Option.map_eq_some_iff.mp hx
      have hrn := mem_ppl.mp (List.mem_of_getElem? hr0)
      obtain ⟨b0, ps, ha, hA⟩ := hw
      refine ⟨rfl, ?_⟩
      refine ⟨_, rfl, _, rfl, by rw [sizeLine_eq]; show 1 ≤ 16777216; decide, fun l nl => ?_⟩
      have kp3 := (kp1.trans kp2).new (o := .lst [.int r]) nl
      refine ⟨a, l, n, r, A, rfl, ⟨b0, ps, kp3.tup ha, hA.kp kp3⟩, Web.inR Wb, hrn, h6, upd_same, fun d H4 kvs kp4 hd hk => ?_⟩
      refine ⟨d, kvs, rfl, hd, _, rfl, a, _, _, _, rfl, rfl, SqT.of ((kp3.trans kp4).tup ha), atI_nat (j := 0) rfl, ?_⟩
      have q1 : decide (((kvs.length : Nat) : Int) = n) = tr (Wins n A r) := Bool.eq_iff_iff.mpr ((decide_eq_true_iff).trans (hk.2.trans tr_iff.symm))
      have kp5 := kp2.trans ((Kp.upd nl).trans kp4)
      have hD5 : H4 D = some (.lst ((((pplI n).take i).filter fun r => tr (Wins n A r)).map V.int)) := kp4.lst (by rw [upd_ne (ne_of_none hD nl)]; exact hD)
      have ft := take_flt (fun r => tr (Wins n A r)) hr0
      have eT : ∀ b, decide (V.int ((kvs.length : Nat) : Int) = V.int n) = b → tr (Wins n A r) = b := fun b e => by
        rw [← q1, ← e]
        simp
      refine ⟨rfl, _, rfl, ?_⟩
      rw [show decide (V.int ((kvs.length : Nat) : Int) = V.int n) = tr (Wins n A r) from (eT _ rfl).symm]
      cases tw : tr (Wins n A r) with
      | true =>
        rw [tw] at ft
        refine iteT ⟨_, rfl, _, hD5, ?_, kp5.mut nD, ?_⟩
        · have := List.length_filter_le (fun r => tr (Wins n A r)) ((pplI n).take i)
          rw [List.length_map, sizeLine_eq]
          rw [List.length_take, len_ppl] at this
          omega
        · rw [upd_same, ft, if_pos rfl, List.map_append]
          rfl
      | false =>
        rw [tw] at ft
        refine iteF ⟨kp5, ?_⟩
        rw [hD5, ft, if_neg (by decide), List.append_nil]
    · rintro H2 ⟨kp2, hD⟩
      rw [List.length_map, List.take_length] at hD
      exact q D H2 (kp1.trans kp2) hD
def spWinners (ts : List Addr) : Sp := fun vs H Q _ => ∃ (a : Addr) (n : Int) (A : Arcs), vs = [.ref a] ∧ WebH H a n A ∧ Web n A ∧ Tabs ts H ∧ ∀ p H', Kp H H' → H' p = some (.tup ((wins n A).map V.int)) → Q (.ref p) H'
theorem scWinners : FnScope ["web"] ["web"] (defScope sWinners) := ⟨rfl, rfl, rfl, by decide +kernel, rfl, by decide +kernel, by decide +kernel⟩
theorem ok_winners {f : Addr} {fd : FuncData} {k : Nat} (F : Fun K "winners" "winners" sWinners f fd) (M : Free mg) (CN : Cal P w K mg base "need_web" k ["web"] (spNeedWeb ts)) (CW : Cal P w K mg base "winners_of" k ["web"] spWinnersOf) : FnOk P w K mg base CX0 (k + 1) f fd ["web"] (spWinners ts) := by
  refine F.ok scWinners (fun vs H Q E h => ?_) (fun cdv A' outer s H vs Q E hr h => ?_)
  · obtain ⟨_, _, _, rfl, _⟩ := h
    rfl
  · obtain ⟨a, n, A, rfl, hw, Wb, tb, q⟩ := h
    refine ⟨_,
      ((pss_cons (ps_expr (pe_c CN hr (by rfl) (pa_cons (pv 0) pa_nil)))
      (pss_one (ps_ret (pe_tupleOf (by rfl) M.tuple (pe_c CW hr (by rfl) (pa_cons (pv 0) pa_nil)))))))
      , ?_⟩
    refine ⟨_, rfl, a, n, A, rfl, hw, Wb, tb, fun H1 kp1 => ?_⟩
    refine ⟨_, rfl, a, n, A, rfl, hw.kp kp1, Wb, fun p H2 kp2 hp => ?_⟩
    exact .inl ⟨p, _, rfl, SqL.of hp, fun t nt => q t _ ((kp1.trans kp2).new nt) upd_same⟩
abbrev PrH (H : Hp) (b : Addr) (p : List Int) : Prop := H b = some (.tup (p.map V.int))
structure PrOk (A : Arcs) (p : List Int) : Prop where
  len : p.length = A.length
  rng : ∀ x, x ∈ p → 0 ≤ x ∧ x ≤ 1000
def spNeedPc (ts : List Addr) : Sp := fun vs H Q _ => ∃ (a b : Addr) (n r : Int) (A : Arcs) (p : List Int), vs = [.ref a, .ref b, .int r] ∧ WebH H a n A ∧ Web n A ∧ Tabs ts H ∧ PrH H b p ∧ PrOk A p ∧ 1 ≤ r ∧ r ≤ n ∧ ∀ H', Kp H H' → Q .non H'
theorem scNeedPc : FnScope ["web", "prices", "person"] ["web", "prices", "person"] (defScope sNeedPc) := ⟨rfl, rfl, rfl, by decide +kernel, rfl, by decide +kernel, by decide +kernel⟩
def spNeedPg (ts : List Addr) : Sp := fun vs H Q _ => ∃ (a b : Addr) (n : Int) (A : Arcs) (p : List Int), vs = [.ref a, .ref b] ∧ WebH H a n A ∧ Web n A ∧ Tabs ts H ∧ PrH H b p ∧ PrOk A p ∧ ∀ H', Kp H H' → Q .non H'
theorem scNeedPg : FnScope ["web", "prices"] ["web", "prices"] (defScope sNeedPg) := ⟨rfl, rfl, rfl, by decide +kernel, rfl, by decide +kernel, by decide +kernel⟩
theorem ok_needpc {f c T : Addr} {fd : FuncData} {k : Nat} (F : Fun K "need_prices" "need_prices" sNeedPc f fd) (hc : fd.code = .ref c) (TB : GxR.TabB base mg c T) (hT : T ∈ ts) (M : Free mg) (J : IsIn K mg)
    (CN : Cal P w K mg base "need_web" (k + 2) ["web"] (spNeedWeb ts)) (CQ : Cal P w K mg base "need_person" (k + 2) ["web", "person"] spNeedPerson) : FnOk P w K mg base CX0 (k + 3) f fd ["web", "prices", "person"] (spNeedPc ts) := by
  refine okT F hc scNeedPc (fun vs H Q E h => ?_) (fun A' outer s H vs Q E hr h => ?_)
  · obtain ⟨_, _, _, _, _, _, rfl, _⟩ := h
    rfl
  · obtain ⟨a, b, n, r, A, p, rfl, hw, Wb, tb, hp, po, hr1, hr2, q⟩ := h
    obtain ⟨t1000, thousand⟩ := M.thousand
    refine ⟨_,
      ((pss_cons (ps_expr (pe_c CN hr (by rfl) (pa_cons (pv 0) pa_nil)))
      (pss_cons (ps_if (PW.pt (pw_or (pt_not (pt_val (pe_isi M (by rfl) (pv 1) (by rfl) M.tuple b_tuple))) (pw_or1 (pt_cmpR op_ne (pe_callB call_len_seq (by rfl) M.len PySem.boot_len (pa_cons (pv 1) pa_nil)) (pe_callB call_len_seq (by rfl) M.len PySem.boot_len (pa_cons (pe_ix ix_tup (pv 0) pe_int (fun _ _ => rfl)) pa_nil)) (nomark _))))) (pss_one ps_never) pss_nil)
      (pss_cons (ps_if (pt_not (pt_val (G8.pe_allG hr (by rfl) M.all_ TB rfl (gens_of rfl rfl (by decide +kernel) rfl rfl (by decide +kernel)) (pv 1)))) (pss_one ps_never) pss_nil)
      (pss_one (ps_expr (pe_c CQ hr (by rfl) (pa_cons (pv 0) (pa_cons (pv 2) pa_nil)))))))))
      , ?_⟩
    refine ⟨_, rfl, a, n, A, rfl, hw, Wb, tb, fun H1 kp1 => ?_⟩
    obtain ⟨b0, ps, ha, hA⟩ := hw.kp kp1
    refine ⟨_, rfl, _, _, _, _, true, rfl, .ty _, .base (.tup (kp1.tup hp)), kit_ty (by decide +kernel), _, rfl, iteF ?_⟩
    refine ⟨_, rfl, b, _, rfl, .inr (SqT.of (kp1.tup hp)), _, rfl, a, _, _, _, rfl, rfl, SqT.of ha, atI_nat (j := 1) rfl, b0, _, rfl, .inr (SqT.of hA.tup), rfl, _, rfl, ?_⟩
    have e : (!decide (V.int ((p.map V.int).length : Nat) = V.int ((ps.map V.ref).length : Nat))) = false := by
      rw [List.length_map, List.length_map, hA.len, po.len]
      simp
    rw [e]
    refine iteF ?_
    refine ⟨_, rfl, _, _, G8.src_tup (kp1.tup hp), (tb.kp kp1) T hT, ?_, fun H2 t2 => ?_⟩
    · obtain ⟨fi, fdi, mi, FI⟩ := J.ex
      intro B cenv t i y z ec py ry
      have hy : ∃ m : Int, y = .int m ∧ 0 ≤ m ∧ m ≤ 1000 := by
        replace py : (p.map V.int)[i]? = some y := py
        rw [List.getElem?_map] at py
        obtain ⟨m, hm, e⟩ := Option.map_eq_some_iff.mp py
        exact ⟨m, e.symm, po.rng m (List.mem_of_getElem? hm)⟩
      obtain ⟨m, rfl, hm1, hm2⟩ := hy
      exact ⟨.bl true, rfl, Q8.q_call ec.bs ec.env (by rw [ec.sc]; rfl) mi FI.kp ec.fit.hd (fit_lt ec hr) (qf_isin FI M.isi M.int_ M.bool_ hm1 hm2)
        (Q8.qa_cons (G8.ec_own ec rfl ry) (Q8.qa_cons Q8.q_int (Q8.qa_cons (Q8.q_glob (v := .int 1000) ec.bs ec.env (by rw [ec.sc]; rfl) thousand ⟨_, rfl⟩) Q8.qa_nil)))⟩
    have kp2 := kp1.trans (Kp.tbd ((tb.kp kp1) T hT) t2)
    refine ⟨_, rfl, iteF ?_⟩
    exact ⟨_, rfl, _, rfl, a, n, r, A, rfl, hw.kp kp2, hr1, hr2, q H2 kp2⟩
theorem ok_needpg {f c T : Addr} {fd : FuncData} {k : Nat} (F : Fun K "need_prices" "need_prices" sNeedPg f fd) (hc : fd.code = .ref c) (TB : GxR.TabB base mg c T) (hT : T ∈ ts) (M : Free mg) (J : IsIn K mg)
    (CN : Cal P w K mg base "need_web" (k + 2) ["web"] (spNeedWeb ts)) : FnOk P w K mg base CX0 (k + 3) f fd ["web", "prices"] (spNeedPg ts) := by
  refine okT F hc scNeedPg (fun vs H Q E h => ?_) (fun A' outer s H vs Q E hr h => ?_)
  · obtain ⟨_, _, _, _, _, rfl, _⟩ := h
    rfl
  · obtain ⟨a, b, n, A, p, rfl, hw, Wb, tb, hp, po, q⟩ := h
    obtain ⟨t1000, thousand⟩ := M.thousand
    refine ⟨_,
      ((pss_cons (ps_expr (pe_c CN hr (by rfl) (pa_cons (pv 0) pa_nil)))
      (pss_cons (ps_if (PW.pt (pw_or (pt_not (pt_val (pe_isi M (by rfl) (pv 1) (by rfl) M.tuple b_tuple))) (pw_or1 (pt_cmpR op_ne (pe_callB call_len_seq (by rfl) M.len PySem.boot_len (pa_cons (pv 1) pa_nil)) (pe_callB call_len_seq (by rfl) M.len PySem.boot_len (pa_cons (pe_ix ix_tup (pv 0) pe_int (fun _ _ => rfl)) pa_nil)) (nomark _))))) (pss_one ps_never) pss_nil)
      (pss_one (ps_if (pt_not (pt_val (G8.pe_allG hr (by rfl) M.all_ TB rfl (gens_of rfl rfl (by decide +kernel) rfl rfl (by decide +kernel)) (pv 1)))) (pss_one ps_never) pss_nil)))))
      , ?_⟩
    refine ⟨_, rfl, a, n, A, rfl, hw, Wb, tb, fun H1 kp1 => ?_⟩
    obtain ⟨b0, ps, ha, hA⟩ := hw.kp kp1
    refine ⟨_, rfl, _, _, _, _, true, rfl, .ty _, .base (.tup (kp1.tup hp)), kit_ty (by decide +kernel), _, rfl, iteF ?_⟩
    refine ⟨_, rfl, b, _, rfl, .inr (SqT.of (kp1.tup hp)), _, rfl, a, _, _, _, rfl, rfl, SqT.of ha, atI_nat (j := 1) rfl, b0, _, rfl, .inr (SqT.of hA.tup), rfl, _, rfl, ?_⟩
    have e : (!decide (V.int ((p.map V.int).length : Nat) = V.int ((ps.map V.ref).length : Nat))) = false := by
      rw [List.length_map, List.length_map, hA.len, po.len]
      simp
    rw [e]
    refine iteF ?_
    refine ⟨_, rfl, _, _, G8.src_tup (kp1.tup hp), (tb.kp kp1) T hT, ?_, fun H2 t2 => ?_⟩
    · obtain ⟨fi, fdi, mi, FI⟩ := J.ex
      intro B cenv t i y z ec py ry
      have hy : ∃ m : Int, y = .int m ∧ 0 ≤ m ∧ m ≤ 1000 := by
        replace py : (p.map V.int)[i]? = some y := py
        rw [List.getElem?_map] at py
        obtain ⟨m, hm, e⟩ := Option.map_eq_some_iff.mp py
        exact ⟨m, e.symm, po.rng m (List.mem_of_getElem? hm)⟩
      obtain ⟨m, rfl, hm1, hm2⟩ := hy
      exact ⟨.bl true, rfl, Q8.q_call ec.bs ec.env (by rw [ec.sc]; rfl) mi FI.kp ec.fit.hd (fit_lt ec hr) (qf_isin FI M.isi M.int_ M.bool_ hm1 hm2)
        (Q8.qa_cons (G8.ec_own ec rfl ry) (Q8.qa_cons Q8.q_int (Q8.qa_cons (Q8.q_glob (v := .int 1000) ec.bs ec.env (by rw [ec.sc]; rfl) thousand ⟨_, rfl⟩) Q8.qa_nil)))⟩
    have kp2 := kp1.trans (Kp.tbd ((tb.kp kp1) T hT) t2)
    exact ⟨_, rfl, iteF (q H2 kp2)⟩
end
end B84
namespace B84
open PySem PySem.Spec PyProof.Rows L2 K84
theorem rch_rev {E : Int → Int → Prop} {x y : Int} (h : Rch (fun a b => E b a) x y) : Rch E y x := by
  induction h with
  | refl => exact .refl
  | step _ e ih => exact .head e ih
/-- an arc that is paid, from its goal to its source -/
abbrev EB (A : Arcs) (rest : List Int) (j : Nat) (x y : Int) : Prop := A[j]? = some (y, x) ∧ rest[j]? = some 0
theorem eb_rch {A : Arcs} {rest : List Int} {g y : Int} : Rch (Er (EB A rest)) g y ↔ Rch (PdE A rest) y g :=
  ⟨fun h => rch_rev (E := PdE A rest) (h.mono fun a b ⟨j, e, z⟩ => ⟨j, e, z⟩), fun h => rch_rev (E := Er (EB A rest)) (h.mono fun a b ⟨j, e, z⟩ => ⟨j, e, z⟩)⟩
section
variable {P : Program} {w : World} {K : PySem.W.Frag} {mg : Str → Option Value} {base : Heap} {ts : List Addr}
def spReaching : Sp := fun vs H Q _ => ∃ (b c : Addr) (n g : Int) (A : Arcs) (ps : List Addr) (rest : List Int), vs = [.ref b, .ref c, .int g] ∧ ArcsH H b A ps ∧ Web n A ∧ H c = some (.lst (rest.map V.int)) ∧ rest.length = A.length ∧ 1 ≤ g ∧ g ≤ n ∧
  ∀ D H' (ys : List Int), Kp H H' → H' D = some (.lst (ys.map V.int)) → ys.Nodup → (∀ y, y ∈ ys ↔ (1 ≤ y ∧ y ≤ n) ∧ Rch (PdE A rest) y g) → Q (.ref D) H'
theorem scReaching : FnScope ["arcs", "rest", "goal", "seen", "rows", "more", "k", "source", "here"] ["arcs", "rest", "goal"] (defScope sReaching) := ⟨rfl, rfl, rfl, by decide +kernel, rfl, by decide +kernel, by decide +kernel⟩
def RW (H : Hp) (A : Arcs) (rest : List Int) (n g : Int) (b c D : Addr) (m : Nat) (σ : L2.St) (H' : Hp) : Prop := ∃ rw Ks rows y4 y5 y6 y7, σ = [some (.ref b), some (.ref c), some (.int g), some (.ref D), some (.ref rw), y4, y5, y6, y7] ∧ Kp H H' ∧ H' D = some (.dK (kd Ks)) ∧ H' rw = some (.lst (rows.map V.int)) ∧ Bfs (EB A rest) g Ks rows [] 0 ∧ m = mu n Ks rows
theorem ok_reaching {f : Addr} {fd : FuncData} {k : Nat} (F : Fun K "reaching" "reaching" sReaching f fd) (M : Free mg) : FnOk P w K mg base CX0 (k + 1) f fd ["arcs", "rest", "goal"] spReaching := by
  refine F.ok scReaching (fun vs H Q E h => ?_) (fun cdv A' outer s H vs Q E hr h => ?_)
  · obtain ⟨_, _, _, _, _, _, _, rfl, _⟩ := h
    rfl
  · obtain ⟨b, c, n, g, A, ps, rest, rfl, hA, Wb, hc, hl, hg1, hg2, q⟩ := h
    have hn6 := Wb.hi
    have hu1 : (A'.deeper (envOfC "reaching" (defScope sReaching) s.heap.objs.size f cdv)).units + 1 < cLine := by
      have := hr.un
      omega
    have hin : ∀ {x : Int}, Rch (Er (EB A rest)) g x → 1 ≤ x ∧ x ≤ n := fun h => rch_in (Web.inR Wb) (fun x y ⟨j, e, _⟩ => .inr (List.mem_of_getElem? e)) ⟨hg1, hg2⟩ h
    refine ⟨_,
      ((pss_cons (ps_par (i := 3) (j := 4) rfl scReaching.nd rfl rfl (by decide) rfl rfl (pa_cons (pe_disp (pps_cons (pv 2) pe_bl pps_nil) (by rfl) (by rfl) (fun z => by cases z) (by decide)) (pa_cons (pe_lst (pa_cons (pv 2) pa_nil)) pa_nil)) (by rfl))
      (pss_cons (ps_while PassesOwn.never (pt_truth (pv 4) (by intro _; rfl)) (pss_cons (ps_set (i := 5) scReaching.nd rfl (Or.inl rfl) (pe_lst pa_nil))
      (pss_cons (ps_for PassesOwn.never rfl (N8.pi_enumT (by rfl) M.enum (pa_cons (pv 0) pa_nil)) (pg_tup rfl (pgs_cons (pg_name (i := 6) scReaching.nd rfl (Or.inl rfl)) (pgs_cons (pg_tup rfl (pgs_cons (pg_name (i := 7) scReaching.nd rfl (Or.inl rfl)) (pgs_cons (pg_name (i := 8) scReaching.nd rfl (Or.inl rfl)) pgs_nil))) pgs_nil))) (pss_one (ps_if (PW.pt (pw_and (pt_cmpR op_eq (pe_ix ix_list (pv 1) (pv 6) (fun _ _ => rfl)) pe_int (nomark _)) (pw_and (pt_cmpR op_in_seq (pv 8) (pv 4) (by rfl)) (pw_and1 (pt_cmp (pc_dnotin hu1 (pv 7) (pv 3))))))) (pss_cons (ps_dput hu1 (pv 3) (pv 7) pe_bl (by rfl))
      (pss_one (ps_expr (pe_bm PySem.F.plainAttrs_list PySem.F.slot_list_append PySem.F.type_list_append mt_append (pv 5) (pa_cons (pv 7) pa_nil))))) pss_nil)))
      (pss_one (ps_set (i := 4) scReaching.nd rfl (Or.inl rfl) (pv 5))))))
      (pss_one (ps_ret (pe_callB (call_sortedDI rfl) (by rfl) M.sorted b_sorted (pa_cons (pv 3) pa_nil)))))))
      , ?_⟩
    intro D nD
    refine ⟨_, rfl, upd_same, [(.inl g, .bl true)], rfl, (by decide : 1 ≤ 15), ?_⟩
    rw [upd_upd]
    refine ⟨_, rfl, by rw [sizeLine_eq]; show 1 ≤ 16777216; decide, fun l nl => ?_⟩
    have lD : l ≠ D := fun e => by
      rw [e, upd_same] at nl
      cases nl
    refine ⟨_, _, rfl, RW H A rest n g b c D, ?_, ?_⟩
    · refine ⟨_, l, [g], [g], none, none, none, none, rfl, ((Kp.upd nD).new nl), ?_, upd_same, Bfs.begin _ _, rfl⟩
      rw [upd_ne lD.symm, upd_same]
      rfl
    rintro m σ H1 ⟨rw, Ks, rows, y4, y5, y6, y7, rfl, kp, hD, hrw, B, rfl⟩
    refine ⟨_, rfl, _, .inl ⟨_, SqL.of hrw, rfl⟩, ?_⟩
    by_cases em : rows = []
    · subst em
      have inn : ∀ x, x ∈ Ks → 1 ≤ x ∧ x ≤ n := fun x hx => hin ((B.done x).mp hx)
      have small := nd_len B.nd1 (k := pplI n) fun x hx => mem_ppl.mpr (inn x hx)
      rw [len_ppl] at small
      refine iteF ⟨_, rfl, D, _, Ks, rfl, .inl hD, ?_, by omega, fun ys p hy _ np => ?_⟩
      · rw [List.map_map]
        rfl
      · refine q p _ ys (kp.new np) upd_same (hy.symm.nodup B.nd1) fun y => ?_
        rw [hy.mem_iff, B.done y]
        exact ⟨fun z => ⟨hin z, eb_rch.mp z⟩, fun z => eb_rch.mpr z.2⟩
    have nE : (!(rows.map V.int).isEmpty) = true := by
      cases rows with
      | nil => exact absurd rfl em
      | cons _ _ => rfl
    rw [nE]
    refine iteT ⟨fun σ' H' => ∃ m', m' < mu n Ks rows ∧ RW H A rest n g b c D m' σ' H', fun _ _ h => h, ?_⟩
    refine ⟨by rw [sizeLine_eq]; decide, fun mo nmo => ?_⟩
    have moD : D ≠ mo := ne_of_none hD nmo
    have morw : rw ≠ mo := ne_of_none hrw nmo
    have Drw : D ≠ rw := fun e => by
      rw [e, hrw] at hD
      cases hD
    refine ⟨_, rfl, b, _, rfl, SqT.of ((kp.new nmo).tup hA.tup), ?_⟩
    refine for_it N8.walk_enumT (fun i σ H2 => ∃ more y6 y7 y8, σ = [some (.ref b), some (.ref c), some (.int g), some (.ref D), some (.ref rw), some (.ref mo), y6, y7, y8] ∧ Kp H H2 ∧ H2 D = some (.dK (kd (Ks ++ more))) ∧ H2 rw = some (.lst (rows.map V.int)) ∧ H2 mo = some (.lst (more.map V.int)) ∧ Bfs (EB A rest) g Ks rows more i) ?_ (fun i σ H1 _ ⟨_, _, _, _, _, kp, _⟩ => SqT.of (kp.tup hA.tup)) ?_ ?_
    · refine ⟨[], _, _, _, rfl, kp.new nmo, ?_, ?_, upd_same, B⟩
      · rw [upd_ne moD, List.append_nil]
        exact hD
      · rw [upd_ne morw]
        exact hrw
    · rintro i x σ H2 H3 hi ⟨more, z5, z6, z7, rfl, kp2, hD2, hr2, hm2, B2⟩ ⟨T, w1, w2, rfl, nT, rfl, e1, e2⟩
      cases (Option.some.inj e1 : V.int (i : Nat) = w1)
      replace e2 : (ps.map V.ref)[i]? = some w2 := e2
      rw [List.getElem?_map] at e2
      obtain ⟨p, hp, rfl⟩ := Option.map_eq_some_iff.mp e2
      obtain ⟨⟨u, v⟩, he, hpp⟩ := hA.got hp
      have kp3 := kp2.new (o := .tup [.int (i : Nat), .ref p]) nT
      have hD3 : upd H2 T (.tup [.int (i : Nat), .ref p]) D = _ := (upd_ne (ne_of_none hD2 nT)).trans hD2
      have hr3 : upd H2 T (.tup [.int (i : Nat), .ref p]) rw = _ := (upd_ne (ne_of_none hr2 nT)).trans hr2
      have hm3 : upd H2 T (.tup [.int (i : Nat), .ref p]) mo = _ := (upd_ne (ne_of_none hm2 nT)).trans hm2
      have tT : upd H2 T (.tup [.int (i : Nat), .ref p]) T = some (.tup [.int (i : Nat), .ref p]) := upd_same
      generalize upd H2 T (.tup [.int (i : Nat), .ref p]) = H3 at kp3 hD3 hr3 hm3 tT ⊢
      refine ⟨T, _, rfl, SqT.of tT, rfl, _, _, rfl, _, _, rfl, p, _, rfl, SqT.of (kp3.tup hpp), rfl, _, _, rfl, _, _, rfl, rfl, rfl, ?_⟩
      have hiA : i < A.length := (List.getElem?_eq_some_iff.mp he).1
      have hri : rest[i]? = some (rest.getD i 0) := K84.some_getD (by rw [hl]; exact hiA)
      refine ⟨_, rfl, _, rfl, c, _, _, _, rfl, rfl, SqL.of (kp3.lst hc), atI_nat (j := i) (v := .int (rest.getD i 0)) (by rw [List.getElem?_map, hri]; rfl), rfl, _, rfl, ?_⟩
      have un : ∀ x' y', EB A rest i x' y' → x' = v ∧ y' = u := fun x' y' e => by
        have := e.1
        rw [he] at this
        cases this
        exact ⟨rfl, rfl⟩
      have skip : (∀ x y, EB A rest i x y → x ∈ rows → y ∈ Ks ++ more) → ∃ more y6 y7 y8, ([some (.ref b), some (.ref c), some (.int g), some (.ref D), some (.ref rw), some (.ref mo), some (.int (i : Nat)), some (.int u), some (.int v)] : L2.St) = [some (.ref b), some (.ref c), some (.int g), some (.ref D), some (.ref rw), some (.ref mo), y6, y7, y8] ∧ Kp H H3 ∧ H3 D = some (.dK (kd (Ks ++ more))) ∧ H3 rw = some (.lst (rows.map V.int)) ∧ H3 mo = some (.lst (more.map V.int)) ∧ Bfs (EB A rest) g Ks rows more (i + 1) := fun h => ⟨more, _, _, _, rfl, kp3, hD3, hr3, hm3, B2.skip h⟩
      by_cases hz : rest.getD i 0 = 0
      · rw [decide_eq_true (show V.int (rest.getD i 0) = V.int 0 by rw [hz])]
        refine iteT ⟨_, rfl, _, rfl, rw, _, rfl, .inl (SqL.of hr3), rfl, int_flat _, ?_⟩
        have q1 : (if false = true then !inV (V.int v) (rows.map V.int) else inV (V.int v) (rows.map V.int)) = decide (v ∈ rows) := int_in v rows
        have q2 : (valV (kd (Ks ++ more)) (.inl u)).isSome = decide (u ∈ Ks ++ more) := by
          rw [kd_val]
          by_cases h : u ∈ Ks ++ more
          · rw [if_pos h, decide_eq_true h]
            rfl
          · rw [if_neg h, decide_eq_false h]
            rfl
        rw [q1]
        refine ⟨_, rfl, ?_⟩
        by_cases hu : v ∈ rows
        · rw [decide_eq_true hu]
          refine iteT ⟨_, rfl, _, rfl, D, _, rfl, DGet.k (k := .inl u) hD3, _, rfl, ?_⟩
          rw [q2]
          by_cases hv : u ∈ Ks ++ more
          · rw [decide_eq_true hv]
            refine iteF (skip fun x y e hx => ?_)
            rw [(un x y e).2]
            exact hv
          · rw [decide_eq_false hv]
            have B3 := B2.add (x := v) (y := u) ⟨he, by rw [hri, hz]⟩ un hu hv
            have moD2 : mo ≠ D := moD.symm
            have small : (Ks ++ more ++ [u]).length ≤ 6 := by
              have := nd_len (k := pplI n) (by have := B3.nd; rw [← List.append_assoc] at this; exact this) fun x hx => mem_ppl.mpr (hin (B3.reach x (by rw [← List.append_assoc]; exact hx)))
              rw [len_ppl] at this
              omega
            rw [List.length_append, List.length_append, List.length_singleton] at small
            refine iteT ⟨_, rfl, _, rfl, D, _, rfl, DPut.k (k := .inl u) hD3 (by rw [List.length_map, List.length_append, sizeLine_eq]; omega), ?_⟩
            have hm4 : upd H3 D (.dK (putK (kd (Ks ++ more)) (.inl u) (V.bl true))) mo = some (.lst (more.map V.int)) := by
              rw [upd_ne moD2]
              exact hm3
            refine ⟨_, rfl, .inl ⟨rfl, _, SqL.of hm4⟩, _, rfl, mo, _, _, rfl, rfl, hm4, by rw [List.length_map, sizeLine_eq]; omega, ?_⟩
            refine ⟨more ++ [u], _, _, _, rfl, (kp3.mut nD).mut (kp.free nmo), ?_, ?_, ?_, B3⟩
            · rw [upd_ne moD, upd_same, kd_put hv, List.append_assoc]
            · rw [upd_ne morw, upd_ne Drw.symm]
              exact hr3
            · rw [upd_same, List.map_append]
              rfl
        · rw [decide_eq_false hu]
          refine iteF (iteF (skip fun x y e hx => ?_))
          exact absurd (by rw [← (un x y e).1]; exact hx) hu
      · rw [decide_eq_false (show ¬ V.int (rest.getD i 0) = V.int 0 from fun z => hz (V.int.inj z))]
        refine iteF (iteF (skip fun x y e hx => ?_))
        have := e.2
        rw [hri] at this
        exact absurd (Option.some.inj this) hz
    · rintro σ H2 ⟨more, z5, z6, z7, rfl, kp2, hD2, hr2, hm2, B2⟩
      have hall : ∀ x, x ∈ Ks ++ more → 1 ≤ x ∧ x ≤ n := fun x hx => hin (B2.reach x hx)
      refine ⟨_, rfl, _, mu_falls B2 em hall, mo, Ks ++ more, more, _, _, _, _, rfl, kp2, hD2, hm2, B2.next fun j x y e => ?_, rfl⟩
      have := (List.getElem?_eq_some_iff.mp e.1).1
      rw [List.length_map, hA.len]
      exact this
end
end B84
namespace B84
open PySem PySem.Spec PyProof.Rows L2 K84
section
variable {P : Program} {w : World} {K : PySem.W.Frag} {mg : Str → Option Value} {base : Heap} {ts : List Addr}
def spChosen : Sp := fun vs H Q _ => ∃ (a sd pd : Addr) (n r : Int) (A : Arcs) (paid : List Nat), vs = [.ref a, .int r, .ref sd, .ref pd] ∧ WebH H a n A ∧ Web n A ∧ 1 ≤ r ∧ r ≤ n ∧ H pd = some (.lst (paid.map kV0)) ∧ paid.Nodup ∧ (∀ k, k ∈ paid → k < A.length) ∧ All n A paid r ∧
  ∀ D H' T, Kp H H' → H' D = some (.lst (List.map kV0 T)) → Chosen n A r paid T → Q (.ref D) H'
theorem scChosen : FnScope ["web", "person", "sets", "paid", "kept", "k", "fewer", "one"] ["web", "person", "sets", "paid"] (defScope sChosen) := ⟨rfl, rfl, rfl, by decide +kernel, rfl, by decide +kernel, by decide +kernel⟩
/-- the arcs of a choice -/
def pick (A : Arcs) (T : List Nat) : Arcs := T.map fun k => A.getD k (0, 0)
theorem pick_mem {A : Arcs} {T : List Nat} (h : ∀ k, k ∈ T → k < A.length) (u v : Int) : (u, v) ∈ pick A T ↔ Ed A T u v := by
  unfold pick Ed
  rw [List.mem_map]
  constructor
  · rintro ⟨k, hk, e⟩
    exact ⟨k, hk, by rw [List.getElem?_eq_getElem (h k hk), ← e, List.getD_eq_getElem?_getD, List.getElem?_eq_getElem (h k hk)]; rfl⟩
  · rintro ⟨k, hk, e⟩
    exact ⟨k, hk, by rw [List.getD_eq_getElem?_getD, e]; rfl⟩
theorem pick_rch {A : Arcs} {T : List Nat} {r v : Int} (h : ∀ k, k ∈ T → k < A.length) : Rch (fun x y => (x, y) ∈ pick A T) r v ↔ Rch (Ed A T) r v :=
  ⟨fun z => z.mono fun x y m => (pick_mem h x y).mp m, fun z => z.mono fun x y m => (pick_mem h x y).mpr m⟩
theorem ok_chosen {f : Addr} {fd : FuncData} {k : Nat} (F : Fun K "chosen" "chosen" sChosen f fd) (M : Free mg) (CH : Cal P w K mg base "hearers" k ["web", "begin"] spHearers) : FnOk P w K mg base CX0 (k + 1) f fd ["web", "person", "sets", "paid"] spChosen := by
  refine F.ok scChosen (fun vs H Q E h => ?_) (fun cdv A' outer s H vs Q E hr h => ?_)
  · obtain ⟨_, _, _, _, _, _, _, rfl, _⟩ := h
    rfl
  · obtain ⟨a, sd, pd, n, r, A, paid, rfl, ⟨b0, ps, ha, hA⟩, Wb, hr1, hr2, hpd, hnd, hlt, hall, q⟩ := h
    have h6 := Wb.hi
    refine ⟨_,
      ((pss_cons (ps_set (i := 4) scChosen.nd rfl (Or.inl rfl) (pe_callTy call_list_of (by rfl) M.list b_list (pa_cons (pv 3) pa_nil)))
      (pss_cons (ps_for PassesOwn.never rfl (pi_list (pe_revL (pv 3))) (pg_name (i := 5) scChosen.nd rfl (Or.inr rfl)) (pss_cons (ps_setLc (i := 6) (own := [("one", 7)]) rfl scChosen.nd rfl rfl (sw_true rfl rfl rfl (by decide +kernel)) (pi_list (pv 4)) (blkOk_by (own := [("one", 7)]) (N := ["web", "person", "sets", "paid", "kept", "k", "fewer", "one"]) (sc := defScope sChosen) (by decide +kernel)) (fun _ _ _ _ _ => (pg_name (i := 7) scChosen.nd rfl (Or.inl rfl))) (fun _ _ _ _ _ => (pts_one (pt_cmpR op_ne (pv 7) (pv 5) (nomark _)))) (fun _ _ _ _ _ => (pv 7)))
      (pss_one (ps_if (pt_cmpR op_eq (pe_callB call_lenD (by rfl) M.len PySem.boot_len (pa_cons (pe_c CH hr (by rfl) (pa_cons (pe_tup (pa_cons (pe_ix ix_tup (pv 0) pe_int (fun _ _ => rfl)) (pa_cons (pe_tupleOf (by rfl) M.tuple (pe_lc (own := [("one", 7)]) rfl scChosen.nd (pi_list (pv 6)) (blkOk_by (own := [("one", 7)]) (N := ["web", "person", "sets", "paid", "kept", "k", "fewer", "one"]) (sc := defScope sChosen) (by decide +kernel)) (fun _ _ _ _ _ => (pg_name (i := 7) scChosen.nd rfl (Or.inl rfl))) (fun _ _ _ _ _ => pts_nil) (fun _ _ _ _ _ => (pe_ix (ixT (K := K)) (pe_ix (ixT (K := K)) (pv 0) pe_int (fun _ _ => rfl)) (pv 7) (fun _ _ => rfl))))) pa_nil))) (pa_cons (pe_lst (pa_cons (pv 1) pa_nil)) pa_nil))) pa_nil)) (pe_ix ix_tup (pv 0) pe_int (fun _ _ => rfl)) (nomark _)) (pss_one (ps_set (i := 4) scChosen.nd rfl (Or.inl rfl) (pv 6))) pss_nil))))
      (pss_one (ps_ret (pv 4))))))
      , ?_⟩
    have p12 : paid.length ≤ 12 := by
      have h1 := hnd.length_le_of_subset (l₂ := List.range A.length) fun x hx => List.mem_range.mpr (hlt x hx)
      rw [List.length_range] at h1
      have := Wb.few
      omega
    refine ⟨_, rfl, pd, _, rfl, .inl (SqL.of hpd), fun l nl => ?_⟩
    refine ⟨_, rfl, pd, _, rfl, SqL.of ((Kp.upd nl).lst hpd), fun rv nrv => ?_⟩
    refine ⟨rv, rfl, ⟨_, SqL.of upd_same⟩, ?_⟩
    rw [← List.map_reverse]
    have kp0 : Kp H (upd (upd H l (.lst (paid.map kV0))) rv (.lst (paid.reverse.map kV0))) := (Kp.upd nl).new nrv
    have hl0 : upd (upd H l (.lst (paid.map kV0))) rv (.lst (paid.reverse.map kV0)) l = some (.lst (paid.map kV0)) := by
      rw [upd_ne (ne_of_none upd_same nrv), upd_same]
    have hrv0 : upd (upd H l (.lst (paid.map kV0))) rv (.lst (paid.reverse.map kV0)) rv = some (.lst (paid.reverse.map kV0)) := upd_same
    generalize upd (upd H l (.lst (paid.map kV0))) rv (.lst (paid.reverse.map kV0)) = H0 at kp0 hl0 hrv0 ⊢
    refine for_it walk_list (fun i σ H' => ∃ ka kept yk yf y1, σ = [some (.ref a), some (.int r), some (.ref sd), some (.ref pd), some (.ref ka), yk, yf, y1] ∧ Kp H0 H' ∧ H' ka = some (.lst (List.map kV0 kept)) ∧ CI n A r paid i kept) ⟨l, paid, _, _, _, rfl, Kp.refl _, hl0, CI.begin hnd hall⟩ (fun i σ H1 _ ⟨_, _, _, _, _, _, kp, _⟩ => SqL.of (kp.lst hrv0)) ?_ ?_
    · rintro i x σ H1 H2 hi ⟨ka, kept, yk, yf, y1, rfl, kp, hka, C⟩ ⟨rfl, hx⟩
      rw [List.getElem?_map] at hx
      obtain ⟨k, hk, rfl⟩ := Option.map_eq_some_iff.mp hx
      refine ⟨_, rfl, ka, rfl, ⟨_, SqL.of hka⟩, fun D nD => ?_⟩
      refine lc_it (walk_list (xs := kept.map kV0)) (fun j H3 => Kp H2 H3 ∧ H3 D = some (.lst (List.map kV0 (without k (kept.take j))))) ⟨Kp.upd nD, upd_same⟩ (fun j H' _ ⟨kp, _⟩ => SqL.of (kp.lst hka)) ?_ ?_
      · rintro j y H3 H4 hj ⟨kp3, hD3⟩ ⟨rfl, hy⟩
        rw [List.getElem?_map] at hy
        obtain ⟨one, ho, rfl⟩ := Option.map_eq_some_iff.mp hy
        refine ⟨rfl, _, rfl, _, rfl, rfl, _, rfl, ?_⟩
        have ft := take_flt (fun x => decide (x ≠ k)) ho
        have eT : (!decide (kV0 one = kV0 k)) = decide (one ≠ k) := by
          simp [kV0]
          omega
        rw [eT]
        have ks : (without k (kept.take j)).length ≤ 12 := by
          have h1 : (without k (kept.take j)).length ≤ (kept.take j).length := List.length_filter_le _ _
          have h2 := C.nd.length_le_of_subset (l₂ := paid) fun x hx => C.sub x hx
          rw [List.length_take] at h1
          omega
        by_cases e : one = k
        · rw [decide_eq_false (fun z => z e)] at ft ⊢
          refine iteF ⟨kp3, ?_⟩
          rw [hD3]
          show _ = some (HO.lst (List.map kV0 ((kept.take (j + 1)).filter fun x => decide (x ≠ k))))
          rw [ft, if_neg (by decide), List.append_nil]
          rfl
        · rw [decide_eq_true e] at ft ⊢
          refine iteT ⟨_, rfl, _, hD3, by rw [List.length_map, sizeLine_eq]; omega, kp3.mut nD, ?_⟩
          rw [upd_same]
          show _ = some (HO.lst (List.map kV0 ((kept.take (j + 1)).filter fun x => decide (x ≠ k))))
          rw [ft, if_pos rfl, List.map_append]
          rfl
      · rintro H3 ⟨kp3, hD3⟩
        rw [List.length_map, List.take_length] at hD3
        have few : (without k kept).length ≤ 12 := by
          have h1 : (without k kept).length ≤ kept.length := List.length_filter_le _ _
          have h2 := C.nd.length_le_of_subset (l₂ := paid) fun x hx => C.sub x hx
          omega
        have wlt : ∀ x, x ∈ without k kept → x < A.length := fun x hx => hlt x (C.sub x (mem_without.mp hx).1)
        generalize eT : without k kept = T at hD3 few wlt
        have kp4 := kp0.trans (kp.trans kp3)
        refine ⟨_, rfl, a, _, _, _, rfl, rfl, SqT.of (kp4.tup ha), atI_nat (j := 0) rfl, ?_⟩
        refine ⟨_, rfl, D, rfl, ⟨_, SqL.of hD3⟩, fun D2 nD2 => ?_⟩
        refine lc_it (walk_list (xs := T.map kV0)) (fun j H5 => Kp H3 H5 ∧ H5 D2 = some (.lst ((T.take j).map fun k => V.ref (ps.getD k 0)))) ⟨Kp.upd nD2, upd_same⟩ (fun j H' _ ⟨kp, _⟩ => SqL.of (kp.lst hD3)) ?_ ?_
        · rintro j y H5 H6 hj ⟨kp5, hD5⟩ ⟨rfl, hy⟩
          rw [List.getElem?_map] at hy
          obtain ⟨one, ho, rfl⟩ := Option.map_eq_some_iff.mp hy
          have ok1 := wlt one (List.mem_of_getElem? ho)
          refine ⟨rfl, ?_⟩
          unfold tYes
          have pg : ps[one]? = some (ps.getD one 0) := by
            rw [List.getD_eq_getElem?_getD, List.getElem?_eq_getElem (by rw [hA.len]; exact ok1)]
            rfl
          have ix : atI (ps.map V.ref) ((one : Nat) : Int) = some (V.ref (ps.getD one 0)) := atI_nat (by rw [List.getElem?_map, pg]; rfl)
          refine iteT ⟨_, rfl, a, _, _, _, rfl, rfl, SqT.of ((kp4.trans kp5).tup ha), atI_nat (j := 1) rfl, _, rfl, b0, _, _, _, rfl, rfl, SqT.of ((kp4.trans kp5).tup hA.tup), ix, ?_⟩
          refine ⟨_, hD5, ?_, kp5.mut nD2, ?_⟩
          · rw [List.length_map, List.length_take, sizeLine_eq]
            omega
          · rw [upd_same, List.take_add_one, ho, List.map_append]
            rfl
        · rintro H5 ⟨kp5, hD5⟩
          rw [List.length_map, List.take_length] at hD5
          refine .inl ⟨D2, _, rfl, SqL.of hD5, fun t nt => ?_⟩
          refine ⟨by rw [sizeLine_eq]; show 2 ≤ 16777216; decide, fun w nw => ?_⟩
          refine ⟨_, rfl, by rw [sizeLine_eq]; show 1 ≤ 16777216; decide, fun l2 nl2 => ?_⟩
          have kp6 := ((kp4.trans kp5).new (o := .tup (T.map fun k => V.ref (ps.getD k 0))) nt).new (o := .tup [.int n, .ref t]) nw |>.new (o := .lst [.int r]) nl2
          have kpn := (((Kp.refl H5).new (o := .tup (T.map fun k => V.ref (ps.getD k 0))) nt).new (o := .tup [.int n, .ref t]) nw).new (o := .lst [.int r]) nl2
          have hw : upd (upd (upd H5 t (.tup (T.map fun k => V.ref (ps.getD k 0)))) w (.tup [.int n, .ref t])) l2 (.lst [.int r]) w = some (.tup [.int n, .ref t]) := by
            rw [upd_ne (ne_of_none upd_same nl2), upd_same]
          have ht : upd (upd (upd H5 t (.tup (T.map fun k => V.ref (ps.getD k 0)))) w (.tup [.int n, .ref t])) l2 (.lst [.int r]) t = some (.tup (T.map fun k => V.ref (ps.getD k 0))) := by
            rw [upd_ne (ne_of_none ((upd_ne (ne_of_none upd_same nw)).trans upd_same) nl2), upd_ne (ne_of_none upd_same nw), upd_same]
          have aH : ArcsH (upd (upd (upd H5 t (.tup (T.map fun k => V.ref (ps.getD k 0)))) w (.tup [.int n, .ref t])) l2 (.lst [.int r])) t (pick A T) (T.map fun k => ps.getD k 0) := by
            refine ⟨?_, by unfold pick; rw [List.length_map, List.length_map], fun j p' e' h1 h2 => ?_⟩
            · rw [ht, List.map_map]
              rfl
            · unfold pick at h2
              rw [List.getElem?_map] at h1 h2
              obtain ⟨m, hm, rfl⟩ := Option.map_eq_some_iff.mp h1
              rw [hm] at h2
              cases h2
              have ok1 := wlt m (List.mem_of_getElem? hm)
              have pg : ps[m]? = some (ps.getD m 0) := by
                rw [List.getD_eq_getElem?_getD, List.getElem?_eq_getElem (by rw [hA.len]; exact ok1)]
                rfl
              have ag : A[m]? = some (A.getD m (0, 0)) := by
                rw [List.getD_eq_getElem?_getD, List.getElem?_eq_getElem ok1]
                rfl
              exact kp6.tup (hA.at_ m _ _ pg ag)
          have inr : InR n (pick A T) := fun u v m => by
            obtain ⟨x, hx, e⟩ := (pick_mem wlt u v).mp m
            exact Web.inR Wb u v (List.mem_of_getElem? e)
          refine ⟨w, l2, n, r, pick A T, rfl, ⟨t, _, hw, aH⟩, inr, ⟨hr1, hr2⟩, h6, upd_same, fun d H6 kvs kp7 hd hkv => ?_⟩
          have kp8 := kp6.trans kp7
          have kp9 := kp3.trans (kp5.trans (kpn.trans kp7))
          refine ⟨d, kvs, rfl, hd, _, rfl, a, _, _, _, rfl, rfl, SqT.of (kp8.tup ha), atI_nat (j := 0) rfl, rfl, _, rfl, ?_⟩
          have hk2 : ((kvs.length : Nat) : Int) = n ↔ All n A T r := hkv.2.trans ⟨fun z v h1 h2 => (pick_rch wlt).mp (z v h1 h2), fun z v h1 h2 => (pick_rch wlt).mpr (z v h1 h2)⟩
          by_cases hall' : All n A T r
          · rw [decide_eq_true (show V.int ((kvs.length : Nat) : Int) = V.int n by rw [hk2.mpr hall'])]
            refine iteT ⟨_, rfl, D, T, _, _, _, rfl, kp.trans kp9, (kp5.trans (kpn.trans kp7)).lst hD3, ?_⟩
            rw [← eT] at hall' ⊢
            exact C.drop hnd hk hall'
          · rw [decide_eq_false (fun z => hall' (hk2.mp (V.int.inj z)))]
            refine iteF ⟨ka, kept, _, _, _, rfl, kp.trans kp9, kp9.lst hka, ?_⟩
            rw [← eT] at hall'
            exact C.keep hnd hk hall'
    · rintro σ H1 ⟨ka, kept, yk, yf, y1, rfl, kp, hka, C⟩
      rw [List.length_map, List.length_reverse] at C
      exact ⟨_, rfl, q ka H1 kept (kp0.trans kp) hka C.done⟩
end
end B84
namespace B84
open PySem PySem.Spec PyProof.Rows L2 K84
theorem eraseIdx_perm {α : Type} : ∀ {l : List α} {j : Nat} {x : α}, l[j]? = some x → (x :: l.eraseIdx j).Perm l
  | [], _, _, h => by simp at h
  | a :: r, 0, x, h => by
    cases (Option.some.inj h : a = x)
    exact List.Perm.refl _
  | a :: r, j + 1, x, h => by
    have ih := eraseIdx_perm (l := r) (j := j) (x := x) (by simpa using h)
    show (x :: a :: r.eraseIdx j).Perm (a :: r)
    exact (List.Perm.swap a x _).trans (ih.cons a)
theorem er_map {α β : Type} (f : α → β) : ∀ (l : List α) (j : Nat), (l.map f).eraseIdx j = (l.eraseIdx j).map f
  | [], _ => rfl
  | _ :: _, 0 => rfl
  | a :: r, j + 1 => by
    show f a :: (r.map f).eraseIdx j = f a :: (r.eraseIdx j).map f
    rw [er_map f r j]
section
variable {P : Program} {w : World} {K : PySem.W.Frag} {mg : Str → Option Value} {base : Heap} {ts : List Addr}
def spInOrder : Sp := fun vs H Q _ => ∃ (a ka : Addr) (n r : Int) (A : Arcs) (T : List Nat), vs = [.ref a, .int r, .ref ka] ∧ WebH H a n A ∧ Web n A ∧ H ka = some (.lst (T.map kV0)) ∧ T.Nodup ∧ (∀ k, k ∈ T → k < A.length) ∧ All n A T r ∧
  ∀ D H' L, Kp H H' → H' D = some (.tup (List.map kV0 L)) → L.Perm T → Spr A r L → Q (.ref D) H'
theorem scInOrder : FnScope ["web", "person", "kept", "seen", "found", "rest", "index", "k"] ["web", "person", "kept"] (defScope sInOrder) := ⟨rfl, rfl, rfl, by decide +kernel, rfl, by decide +kernel, by decide +kernel⟩
structure IO (A : Arcs) (r : Int) (T : List Nat) (seen : List Int) (found rest : List Nat) : Prop where
  perm : (found ++ rest).Perm T
  r0 : r ∈ seen
  from_ : ∀ x, x ∈ seen → x = r ∨ ∃ k', k' ∈ found ∧ ∃ u', A[k']? = some (u', x)
  to_ : ∀ k u v, k ∈ found → A[k]? = some (u, v) → v ∈ seen
  spr : Spr A r found
  len : seen.length = 1 + found.length
theorem IO.step {A : Arcs} {r : Int} {T : List Nat} {seen : List Int} {found rest : List Nat} (I : IO A r T seen found rest) {j k : Nat} {u v : Int} (hj : rest[j]? = some k) (e : A[k]? = some (u, v)) (hu : u ∈ seen) : IO A r T (seen ++ [v]) (found ++ [k]) (rest.eraseIdx j) where
  perm := by
    rw [List.append_assoc]
    exact ((eraseIdx_perm hj).append_left found).trans I.perm
  r0 := List.mem_append_left _ I.r0
  from_ := fun x hx => by
    rcases List.mem_append.mp hx with q | q
    · rcases I.from_ x q with z | ⟨k', h1, h2⟩
      · exact .inl z
      · exact .inr ⟨k', List.mem_append_left _ h1, h2⟩
    · rw [List.mem_singleton.mp q]
      exact .inr ⟨k, List.mem_append_right _ (List.mem_singleton.mpr rfl), u, e⟩
  to_ := fun k' u' v' hk e' => by
    rcases List.mem_append.mp hk with q | q
    · exact List.mem_append_left _ (I.to_ k' u' v' q e')
    · rw [List.mem_singleton.mp q, e] at e'
      cases e'
      exact List.mem_append_right _ (List.mem_singleton.mpr rfl)
  spr := I.spr.snoc e (I.from_ u hu)
  len := by rw [List.length_append, List.length_append, I.len]; simp; omega
def IW (H : Hp) (A : Arcs) (r : Int) (T : List Nat) (a ka sa fa ra : Addr) (m : Nat) (σ : L2.St) (H' : Hp) : Prop := ∃ seen found rest y6 y7, σ = [some (.ref a), some (.int r), some (.ref ka), some (.ref sa), some (.ref fa), some (.ref ra), y6, y7] ∧ Kp H H' ∧ H' sa = some (.lst (List.map V.int seen)) ∧ H' fa = some (.lst (List.map kV0 found)) ∧ H' ra = some (.lst (List.map kV0 rest)) ∧ IO A r T seen found rest ∧ m = rest.length
theorem ok_inorder {f : Addr} {fd : FuncData} {k : Nat} (F : Fun K "in_order" "in_order" sInOrder f fd) (M : Free mg) : FnOk P w K mg base CX0 (k + 1) f fd ["web", "person", "kept"] spInOrder := by
  refine F.ok scInOrder (fun vs H Q E h => ?_) (fun cdv A' outer s H vs Q E hr h => ?_)
  · obtain ⟨_, _, _, _, _, _, rfl, _⟩ := h
    rfl
  · obtain ⟨a, ka, n, r, A, T, rfl, ⟨b0, ps, ha, hA⟩, Wb, hka, hnd, hlt, hall, q⟩ := h
    refine ⟨_,
      ((pss_cons (ps_asg (pe_tup (pa_cons (pe_lst (pa_cons (pv 1) pa_nil)) (pa_cons (pe_lst pa_nil) (pa_cons (pe_callTy call_list_of (by rfl) M.list b_list (pa_cons (pv 2) pa_nil)) pa_nil)))) (pg_tup rfl (pgs_cons (pg_name (i := 3) scInOrder.nd rfl (Or.inr rfl)) (pgs_cons (pg_name (i := 4) scInOrder.nd rfl (Or.inl rfl)) (pgs_cons (pg_name (i := 5) scInOrder.nd rfl (Or.inl rfl)) pgs_nil)))))
      (pss_cons (ps_while PassesOwn.never (pt_truth (pv 5) (by intro _; rfl)) (pss_cons (ps_set (i := 6) scInOrder.nd rfl (Or.inl rfl) (pe_ix ix_list (pe_lc (own := [("k", 7)]) rfl scInOrder.nd (pi_list (pv 5)) (blkOk_by (own := [("k", 7)]) (N := ["web", "person", "kept", "seen", "found", "rest", "index", "k"]) (sc := defScope sInOrder) (by decide +kernel)) (fun _ _ _ _ _ => (pg_name (i := 7) scInOrder.nd rfl (Or.inl rfl))) (fun _ _ _ _ _ => (pts_one (pt_cmpR (inS (K := K)) (pe_ix (ixT (K := K)) (pe_ix (ixT (K := K)) (pe_ix (ixT (K := K)) (pv 0) pe_int (fun _ _ => rfl)) (pv 7) (fun _ _ => rfl)) pe_int (fun _ _ => rfl)) (pv 3) (by rfl)))) (fun _ _ _ _ _ => (pv 7))) pe_int (fun _ _ => rfl)))
      (pss_cons (ps_expr (pe_bm PySem.F.plainAttrs_list PySem.F.slot_list_remove PySem.F.type_list_remove mt_remove (pv 5) (pa_cons (pv 6) pa_nil)))
      (pss_cons (ps_expr (pe_bm PySem.F.plainAttrs_list PySem.F.slot_list_append PySem.F.type_list_append mt_append (pv 4) (pa_cons (pv 6) pa_nil)))
      (pss_one (ps_expr (pe_bm PySem.F.plainAttrs_list PySem.F.slot_list_append PySem.F.type_list_append mt_append (pv 3) (pa_cons (pe_ix ix_tup (pe_ix ix_tup (pe_ix ix_tup (pv 0) pe_int (fun _ _ => rfl)) (pv 6) (fun _ _ => rfl)) pe_int (fun _ _ => rfl)) pa_nil))))))))
      (pss_one (ps_ret (pe_tupleOf (by rfl) M.tuple (pv 4)))))))
      , ?_⟩
    have t12 : T.length ≤ 12 := by
      have h1 := hnd.length_le_of_subset (l₂ := List.range A.length) fun x hx => List.mem_range.mpr (hlt x hx)
      rw [List.length_range] at h1
      have := Wb.few
      omega
    refine ⟨_, rfl, by rw [sizeLine_eq]; show 1 ≤ 16777216; decide, fun sa nsa => ?_⟩
    refine ⟨by rw [sizeLine_eq]; show 0 ≤ 16777216; decide, fun fa nfa => ?_⟩
    refine ⟨_, rfl, ka, _, rfl, .inl (SqL.of (((Kp.upd nsa).new nfa).lst hka)), fun ra nra => ?_⟩
    refine ⟨by rw [sizeLine_eq]; show 3 ≤ 16777216; decide, fun tp ntp => ?_⟩
    refine ⟨tp, _, rfl, SqT.of upd_same, rfl, _, _, rfl, _, _, rfl, _, _, rfl, rfl, ?_⟩
    have safa : sa ≠ fa := ne_of_none upd_same nfa
    have e1 : upd (upd H sa (.lst [.int r])) fa (.lst []) sa = some (.lst [.int r]) := by rw [upd_ne safa, upd_same]
    have sara : sa ≠ ra := ne_of_none e1 nra
    have fara : fa ≠ ra := ne_of_none upd_same nra
    have f2 : (upd H sa (.lst [.int r])) ra = none := (Kp.upd nfa).free nra
    have f1 : H ra = none := (Kp.upd nsa).free f2
    have f3 : H fa = none := (Kp.upd nsa).free nfa
    have kp0 : Kp H (upd (upd (upd (upd H sa (.lst [.int r])) fa (.lst [])) ra (.lst (T.map kV0))) tp (.tup [.ref sa, .ref fa, .ref ra])) := (((Kp.upd nsa).new nfa).new nra).new ntp
    have g1 : (upd (upd (upd (upd H sa (.lst [.int r])) fa (.lst [])) ra (.lst (T.map kV0))) tp (.tup [.ref sa, .ref fa, .ref ra])) ra = some (.lst (T.map kV0)) := by rw [upd_ne (ne_of_none upd_same ntp), upd_same]
    have g2 : (upd (upd (upd (upd H sa (.lst [.int r])) fa (.lst [])) ra (.lst (T.map kV0))) tp (.tup [.ref sa, .ref fa, .ref ra])) fa = some (.lst []) := by
      have : (upd (upd (upd H sa (.lst [.int r])) fa (.lst [])) ra (.lst (T.map kV0))) fa = some (.lst []) := by rw [upd_ne fara, upd_same]
      rw [upd_ne (ne_of_none this ntp), this]
    have g3 : (upd (upd (upd (upd H sa (.lst [.int r])) fa (.lst [])) ra (.lst (T.map kV0))) tp (.tup [.ref sa, .ref fa, .ref ra])) sa = some (.lst [.int r]) := by
      have : (upd (upd (upd H sa (.lst [.int r])) fa (.lst [])) ra (.lst (T.map kV0))) sa = some (.lst [.int r]) := by rw [upd_ne sara, e1]
      rw [upd_ne (ne_of_none this ntp), this]
    generalize (upd (upd (upd (upd H sa (.lst [.int r])) fa (.lst [])) ra (.lst (T.map kV0))) tp (.tup [.ref sa, .ref fa, .ref ra])) = H0 at kp0 g1 g2 g3 ⊢
    refine ⟨IW H A r T a ka sa fa ra, ⟨_, [r], [], T, _, _, rfl, kp0, g3, g2, g1, ⟨List.Perm.refl _, List.mem_singleton.mpr rfl, fun x hx => .inl (List.mem_singleton.mp hx), fun _ _ _ h => absurd h List.not_mem_nil, Spr.nil A r, rfl⟩, rfl⟩, ?_⟩
    rintro m σ H1 ⟨seen, found, rest, y6, y7, rfl, kp, hsa, hfa, hra, I, rfl⟩
    refine ⟨_, rfl, _, .inl ⟨_, SqL.of hra, rfl⟩, ?_⟩
    have frT : found.length + rest.length = T.length := by
      have := I.perm.length_eq
      rw [List.length_append] at this
      exact this
    by_cases em : rest = []
    · subst em
      refine iteF ⟨_, rfl, .inl ⟨fa, _, rfl, SqL.of hfa, fun t nt => ?_⟩⟩
      refine q t _ found (kp.new nt) upd_same ?_ I.spr
      have := I.perm
      rw [List.append_nil] at this
      exact this
    have nE : (!(List.map kV0 rest).isEmpty) = true := by
      cases rest with
      | nil => exact absurd rfl em
      | cons _ _ => rfl
    rw [nE]
    have mT : ∀ k, k ∈ rest → k ∈ T := fun k hk => I.perm.mem_iff.mp (List.mem_append_right _ hk)
    have lt12 : rest.length ≤ 12 := by omega
    refine iteT ⟨fun σ' H' => ∃ m', m' < rest.length ∧ IW H A r T a ka sa fa ra m' σ' H', fun _ _ h => h, ?_⟩
    refine ⟨_, rfl, ra, rfl, ⟨_, SqL.of hra⟩, fun D nD => ?_⟩
    refine lc_it (walk_list (xs := rest.map kV0)) (fun j H3 => Kp H1 H3 ∧ H3 D = some (.lst (List.map kV0 ((rest.take j).filter fun k => decide ((A.getD k (0, 0)).1 ∈ seen))))) ⟨Kp.upd nD, upd_same⟩ (fun j H' _ ⟨kp, _⟩ => SqL.of (kp.lst hra)) ?_ ?_
    · rintro j y H3 H4 hj ⟨kp3, hD3⟩ ⟨rfl, hy⟩
      rw [List.getElem?_map] at hy
      obtain ⟨one, ho, rfl⟩ := Option.map_eq_some_iff.mp hy
      have ok1 := hlt one (mT one (List.mem_of_getElem? ho))
      obtain ⟨⟨u, v⟩, e⟩ : ∃ x, A[one]? = some x := ⟨_, List.getElem?_eq_getElem ok1⟩
      obtain ⟨p, hp, hpp⟩ := hA.get e
      have eg : (A.getD one (0, 0)).1 = u := by rw [List.getD_eq_getElem?_getD, e]; rfl
      have ix : atI (ps.map V.ref) ((one : Nat) : Int) = some (V.ref p) := atI_nat (by rw [List.getElem?_map, hp]; rfl)
      have kp4 := kp.trans kp3
      refine ⟨rfl, _, rfl, a, _, _, _, rfl, rfl, SqT.of (kp4.tup ha), atI_nat (j := 1) rfl, _, rfl, b0, _, _, _, rfl, rfl, SqT.of (kp4.tup hA.tup), ix, p, _, _, _, rfl, rfl, SqT.of (kp4.tup hpp), atI_nat (j := 0) rfl, ?_⟩
      refine ⟨_, rfl, sa, _, rfl, .inl (SqL.of (kp3.lst hsa)), rfl, int_flat _, _, rfl, ?_⟩
      have q1 : (if false = true then !inV (V.int u) (seen.map V.int) else inV (V.int u) (seen.map V.int)) = decide (u ∈ seen) := int_in u seen
      have ft := take_flt (fun k => decide ((A.getD k (0, 0)).1 ∈ seen)) ho
      rw [eg] at ft
      show if (if false = true then !inV (V.int u) (seen.map V.int) else inV (V.int u) (seen.map V.int)) = true then _ else _
      rw [q1]
      by_cases hu : u ∈ seen
      · rw [decide_eq_true hu] at ft ⊢
        refine iteT ⟨_, rfl, _, hD3, ?_, kp3.mut nD, ?_⟩
        · have h1 := List.length_filter_le (fun k => decide ((A.getD k (0, 0)).1 ∈ seen)) (rest.take j)
          rw [List.length_take] at h1
          rw [List.length_map, sizeLine_eq]
          omega
        · rw [upd_same, ft, if_pos rfl, List.map_append]
          rfl
      · rw [decide_eq_false hu] at ft ⊢
        refine iteF ⟨kp3, ?_⟩
        rw [hD3, ft, if_neg (by decide), List.append_nil]
    · rintro H3 ⟨kp3, hD3⟩
      rw [List.length_map, List.take_length] at hD3
      obtain ⟨k1, u1, v1, hk1, e1, hu1⟩ := goes_on (n := n) hall I.r0 I.perm I.to_ (fun k hk => by
        obtain ⟨⟨u, v⟩, e⟩ : ∃ x, A[k]? = some x := ⟨_, List.getElem?_eq_getElem (hlt k hk)⟩
        exact ⟨u, v, e, (Wb.ok u v (List.mem_of_getElem? e)).1⟩) em
      have mem1 : k1 ∈ rest.filter fun k => decide ((A.getD k (0, 0)).1 ∈ seen) := List.mem_filter.mpr ⟨hk1, decide_eq_true (by rw [List.getD_eq_getElem?_getD, e1]; exact hu1)⟩
      obtain ⟨k0, tl, efl⟩ : ∃ k0 tl, (rest.filter fun k => decide ((A.getD k (0, 0)).1 ∈ seen)) = k0 :: tl := by
        cases h : rest.filter fun k => decide ((A.getD k (0, 0)).1 ∈ seen) with
        | nil => rw [h] at mem1; cases mem1
        | cons a l => exact ⟨a, l, rfl⟩
      rw [efl] at hD3
      have hk0 : k0 ∈ rest ∧ (A.getD k0 (0, 0)).1 ∈ seen := by
        have := List.mem_filter.mp (show k0 ∈ rest.filter fun k => decide ((A.getD k (0, 0)).1 ∈ seen) by rw [efl]; exact List.mem_cons_self)
        exact ⟨this.1, of_decide_eq_true this.2⟩
      obtain ⟨⟨u, v⟩, e⟩ : ∃ x, A[k0]? = some x := ⟨_, List.getElem?_eq_getElem (hlt k0 (mT k0 hk0.1))⟩
      have hu : u ∈ seen := by
        have := hk0.2
        rw [List.getD_eq_getElem?_getD, e] at this
        exact this
      obtain ⟨j, hj, ej⟩ := List.getElem_of_mem hk0.1
      have hj' : rest[j]? = some k0 := by rw [List.getElem?_eq_getElem hj, ej]
      have rnd : rest.Nodup := (List.nodup_append.mp (I.perm.symm.nodup hnd)).2.1
      have I2 := I.step hj' e hu
      have hra3 := kp3.lst hra
      have hsa3 := kp3.lst hsa
      have hfa3 := kp3.lst hfa
      refine ⟨D, _, 0, kV0 k0, rfl, rfl, SqL.of hD3, atI_nat (j := 0) rfl, ?_⟩
      refine ⟨_, rfl, .inl ⟨rfl, _, SqL.of hra3⟩, _, rfl, ra, rest.map (fun (k : Nat) => (k : Int)), (k0 : Int), j, rfl, rfl, ?_, ?_, ?_, ?_⟩
      · rw [hra3, List.map_map]
        rfl
      · rw [List.getElem?_map, hj']
        rfl
      · intro m hm z
        rw [List.getElem?_map] at z
        obtain ⟨k', hk', e'⟩ := Option.map_eq_some_iff.mp z
        have : k' = k0 := Int.ofNat.inj e'
        subst this
        exact absurd ((List.getElem?_inj (by omega) rnd).mp (hk'.trans hj'.symm)) (by omega)
      · have er : List.map V.int ((rest.map fun (k : Nat) => (k : Int)).eraseIdx j) = List.map kV0 (rest.eraseIdx j) := by
          rw [er_map, List.map_map]
          rfl
        rw [er]
        have kp4 : Kp H (upd H3 ra (.lst (List.map kV0 (rest.eraseIdx j)))) := (kp.trans kp3).mut f1
        have hra4 : upd H3 ra (.lst (List.map kV0 (rest.eraseIdx j))) ra = some (.lst (List.map kV0 (rest.eraseIdx j))) := upd_same
        have hsa4 : upd H3 ra (.lst (List.map kV0 (rest.eraseIdx j))) sa = _ := (upd_ne sara).trans hsa3
        have hfa4 : upd H3 ra (.lst (List.map kV0 (rest.eraseIdx j))) fa = _ := (upd_ne fara).trans hfa3
        generalize upd H3 ra (.lst (List.map kV0 (rest.eraseIdx j))) = H4 at kp4 hra4 hsa4 hfa4 ⊢
        refine ⟨_, rfl, .inl ⟨rfl, _, SqL.of hfa4⟩, _, rfl, fa, _, _, rfl, rfl, hfa4, by rw [List.length_map, sizeLine_eq]; omega, ?_⟩
        have kp5 : Kp H (upd H4 fa (.lst (List.map kV0 found ++ [kV0 k0]))) := kp4.mut f3
        have hra5 : upd H4 fa (.lst (List.map kV0 found ++ [kV0 k0])) ra = _ := (upd_ne fara.symm).trans hra4
        have hsa5 : upd H4 fa (.lst (List.map kV0 found ++ [kV0 k0])) sa = _ := (upd_ne safa).trans hsa4
        have hfa5 : upd H4 fa (.lst (List.map kV0 found ++ [kV0 k0])) fa = some (.lst (List.map kV0 (found ++ [k0]))) := by
          rw [upd_same, List.map_append]
          rfl
        generalize upd H4 fa (.lst (List.map kV0 found ++ [kV0 k0])) = H5 at kp5 hra5 hsa5 hfa5 ⊢
        obtain ⟨p, hp, hpp⟩ := hA.get e
        have ix : atI (ps.map V.ref) ((k0 : Nat) : Int) = some (V.ref p) := atI_nat (by rw [List.getElem?_map, hp]; rfl)
        refine ⟨_, rfl, .inl ⟨rfl, _, SqL.of hsa5⟩, ?_⟩
        refine ⟨_, rfl, a, _, _, _, rfl, rfl, SqT.of (kp5.tup ha), atI_nat (j := 1) rfl, _, rfl, b0, _, _, _, rfl, rfl, SqT.of (kp5.tup hA.tup), ix, p, _, _, _, rfl, rfl, SqT.of (kp5.tup hpp), atI_nat (j := 1) rfl, ?_⟩
        refine ⟨sa, _, _, rfl, rfl, hsa5, by rw [List.length_map, sizeLine_eq, I.len]; omega, ?_⟩
        refine ⟨_, ?_, seen ++ [v], found ++ [k0], rest.eraseIdx j, _, _, rfl, kp5.mut nsa, ?_, ?_, ?_, I2, rfl⟩
        · rw [List.length_eraseIdx_of_lt hj]
          omega
        · rw [upd_same, List.map_append]
          rfl
        · rw [upd_ne safa.symm]
          exact hfa5
        · rw [upd_ne sara.symm]
          exact hra5
end
end B84
/-! The dict of the groups: what has been laid on each. -/
namespace B84
open PySem PySem.Spec PyProof.Rows L2 K84
abbrev Ws := List (List Int × Int)
abbrev kS (g : List Int) : List Key := g.map Sum.inl
abbrev kvW (ws : Ws) : List (List Key × V) := ws.map fun w => (kS w.1, V.int w.2)
theorem kS_inj : ∀ {g h : List Int}, kS g = kS h → g = h
  | [], [], _ => rfl
  | [], _ :: _, e => nomatch e
  | _ :: _, [], e => nomatch e
  | a :: r, b :: t, e => by
    have e2 : (Sum.inl a : Key) :: kS r = Sum.inl b :: kS t := e
    rw [List.cons.injEq] at e2
    rw [Sum.inl.inj e2.1, kS_inj e2.2]
theorem kS_eq (g h : List Int) : decide (kS g = kS h) = decide (g = h) := by
  by_cases e : g = h
  · rw [decide_eq_true e, e, decide_eq_true rfl]
  · rw [decide_eq_false e, decide_eq_false fun z => e (kS_inj z)]
def getW : Ws → List Int → Option Int
  | [], _ => none
  | w :: r, g => if w.1 = g then some w.2 else getW r g
def setW (ws : Ws) (g : List Int) (y : Int) : Ws := if (ws.any fun w => decide (w.1 = g)) = true then ws.map (fun w => if w.1 = g then (w.1, y) else w) else ws ++ [(g, y)]
theorem val_W (g : List Int) : ∀ ws : Ws, valV (kvW ws) (kS g) = (getW ws g).map V.int
  | [] => rfl
  | w :: r => by
    show valV ((kS w.1, V.int w.2) :: kvW r) (kS g) = (if w.1 = g then some w.2 else getW r g).map V.int
    by_cases e : w.1 = g
    · rw [if_pos e]
      exact valV_pos (p := (kS w.1, V.int w.2)) (by rw [e])
    · rw [if_neg e, valV_neg (p := (kS w.1, V.int w.2)) fun z => e (kS_inj z)]
      exact val_W g r
theorem put_W (ws : Ws) (g : List Int) (y : Int) : putK (kvW ws) (kS g) (V.int y) = kvW (setW ws g y) := by
  unfold putK setW kvW
  have ea : ((ws.map fun w => (kS w.1, V.int w.2)).any fun kv => decide (kv.1 = kS g)) = ws.any fun w => decide (w.1 = g) := by
    rw [List.any_map]
    congr 1
    funext w
    exact kS_eq w.1 g
  rw [ea]
  split
  · rw [List.map_map, List.map_map]
    refine List.map_congr_left fun w _ => ?_
    show (if kS w.1 = kS g then (kS w.1, V.int y) else (kS w.1, V.int w.2)) = (fun w : List Int × Int => (kS w.1, V.int w.2)) (if w.1 = g then (w.1, y) else w)
    by_cases e : w.1 = g
    · rw [if_pos e, if_pos (by rw [e])]
    · rw [if_neg e, if_neg fun z => e (kS_inj z)]
  · rw [List.map_append]
    rfl
theorem get_none : ∀ {ws : Ws} {g : List Int}, (ws.any fun w => decide (w.1 = g)) = false → getW ws g = none ∧ ∀ w, w ∈ ws → w.1 ≠ g
  | [], _, _ => ⟨rfl, fun _ h => nomatch h⟩
  | w :: r, g, h => by
    rw [List.any_cons, Bool.or_eq_false_iff] at h
    obtain ⟨h1, h2⟩ := get_none (ws := r) h.2
    have e : ¬ w.1 = g := of_decide_eq_false h.1
    refine ⟨(if_neg e).trans h1, fun v hv => ?_⟩
    rcases List.mem_cons.mp hv with q | q
    · rw [q]; exact e
    · exact h2 v q
theorem map_same {r : Ws} {g : List Int} {y : Int} (h : ∀ w, w ∈ r → w.1 ≠ g) : r.map (fun w => if w.1 = g then (w.1, y) else w) = r := by
  have : r.map (fun w => if w.1 = g then (w.1, y) else w) = r.map id := List.map_congr_left fun w hw => if_neg (h w hw)
  rw [this, List.map_id]
theorem sum_W {g : List Int} {y : Int} : ∀ {ws : Ws}, (ws.map Prod.fst).Nodup → (ws.any fun w => decide (w.1 = g)) = true → ((ws.map fun w => if w.1 = g then (w.1, (getW ws g).getD 0 + y) else w).map Prod.snd).sum = (ws.map Prod.snd).sum + y ∧ ∃ w, w ∈ ws ∧ getW ws g = some w.2
  | [], _, h => by cases h
  | w :: r, hn, h => by
    rw [List.map_cons, List.nodup_cons] at hn
    by_cases e : w.1 = g
    · have eg : getW (w :: r) g = some w.2 := if_pos e
      have ne : ∀ v, v ∈ r → v.1 ≠ g := fun v hv z => hn.1 (by rw [e, ← z]; exact List.mem_map_of_mem hv)
      refine ⟨?_, w, List.mem_cons_self, eg⟩
      rw [eg, List.map_cons, map_same ne, if_pos e]
      simp only [List.map_cons, List.sum_cons, Option.getD_some]
      omega
    · have eg : getW (w :: r) g = getW r g := if_neg e
      have hr : (r.any fun w => decide (w.1 = g)) = true := by
        rw [List.any_cons, decide_eq_false e, Bool.false_or] at h
        exact h
      obtain ⟨h1, v, hv, h2⟩ := sum_W (y := y) hn.2 hr
      refine ⟨?_, v, List.mem_cons_of_mem _ hv, eg.trans h2⟩
      rw [eg, List.map_cons, if_neg e, List.map_cons, List.sum_cons, h1, List.map_cons, List.sum_cons]
      omega
structure WS (hs : Hist) (ws : Ws) : Prop where
  nd : (ws.map Prod.fst).Nodup
  nn : ∀ w, w ∈ ws → 0 ≤ w.2
  sum : (ws.map Prod.snd).sum = wsum hs
theorem wsum_snoc (hs : Hist) (S : List Int) (y : Int) : wsum (hs ++ [(S, y)]) = wsum hs + y := by
  unfold wsum
  rw [List.map_append, List.sum_append]
  simp
theorem WS.put {hs : Hist} {ws : Ws} (W : WS hs ws) {g S : List Int} {y : Int} (hy : 0 ≤ y) : WS (hs ++ [(S, y)]) (setW ws g ((getW ws g).getD 0 + y)) ∧ (setW ws g ((getW ws g).getD 0 + y)).length ≤ ws.length + 1 := by
  unfold setW
  cases h : ws.any fun w => decide (w.1 = g) with
  | true =>
    rw [if_pos rfl]
    obtain ⟨h1, v, hv, h2⟩ := sum_W (y := y) W.nd h
    refine ⟨⟨?_, fun w hw => ?_, ?_⟩, by rw [List.length_map]; omega⟩
    · rw [List.map_map]
      have e : ws.map (Prod.fst ∘ fun w => if w.1 = g then (w.1, (getW ws g).getD 0 + y) else w) = ws.map Prod.fst := List.map_congr_left fun w _ => by
        show (if w.1 = g then (w.1, (getW ws g).getD 0 + y) else w).1 = w.1
        split <;> rfl
      rw [e]
      exact W.nd
    · obtain ⟨u, hu, rfl⟩ := List.mem_map.mp hw
      have h3 := W.nn v hv
      have h4 := W.nn u hu
      split
      · rw [h2]
        show 0 ≤ v.2 + y
        omega
      · exact h4
    · rw [h1, W.sum, wsum_snoc]
  | false =>
    rw [if_neg (by decide)]
    obtain ⟨h1, h2⟩ := get_none h
    rw [h1]
    refine ⟨⟨?_, fun w hw => ?_, ?_⟩, by rw [List.length_append, List.length_singleton]; omega⟩
    · rw [List.map_append]
      refine List.nodup_append.mpr ⟨W.nd, by simp, fun a ha b hb e => ?_⟩
      obtain ⟨u, hu, rfl⟩ := List.mem_map.mp ha
      have hb' : b = g := by simpa using hb
      exact h2 u hu (e.trans hb')
    · rcases List.mem_append.mp hw with q | q
      · exact W.nn w q
      · rw [List.mem_singleton.mp q]
        show 0 ≤ 0 + y
        omega
    · rw [List.map_append, List.sum_append, W.sum, wsum_snoc]
      simp
end B84
namespace B84
open PySem PySem.Spec PyProof.Rows L2 K84
section
variable {P : Program} {w : World} {K : PySem.W.Frag} {mg : Str → Option Value} {base : Heap} {ts : List Addr}
structure RaisedW (n : Int) (A : Arcs) (p : List Int) (r : Int) (paid : List Nat) (ws : Ws) (W : Int) : Prop where
  ex : ∃ hs, Raised n A p r paid hs ∧ WS hs ws ∧ W = wsum hs
def spRaised : Sp := fun vs H Q _ => ∃ (a b : Addr) (n r : Int) (A : Arcs) (p : List Int), vs = [.ref a, .ref b, .int r] ∧ WebH H a n A ∧ Web n A ∧ PrH H b p ∧ PrOk A p ∧ 1 ≤ r ∧ r ≤ n ∧ Wins n A r ∧
  ∀ t sa pa H' paid ws W, Kp H H' → H' t = some (.tup [.ref sa, .ref pa]) → H' sa = some (.dT (kvW ws)) → H' pa = some (.lst (List.map kV0 paid)) → RaisedW n A p r paid ws W → Q (.ref t) H'
theorem scRaised : FnScope ["web", "prices", "person", "rest", "paid", "sets", "group", "one", "some", "into", "size", "k", "price", "source", "goal"] ["web", "prices", "person"] (defScope sRaised) := ⟨rfl, rfl, rfl, by decide +kernel, rfl, by decide +kernel, by decide +kernel⟩
abbrev zeros (p : List Int) (j : Nat) : List Nat := (List.range j).filter fun k => decide (p.getD k 0 = 0)
def QW (H : Hp) (n : Int) (A : Arcs) (p : List Int) (r : Int) (a b ra pa sa : Addr) (m : Nat) (σ : L2.St) (H' : Hp) : Prop := ∃ rest paid hs ws y6 y7 y8 y9 y10 y11 y12 y13 y14, σ = [some (.ref a), some (.ref b), some (.int r), some (.ref ra), some (.ref pa), some (.ref sa), y6, y7, y8, y9, y10, y11, y12, y13, y14] ∧
  Kp H H' ∧ H' ra = some (.lst (List.map V.int rest)) ∧ H' pa = some (.lst (List.map kV0 paid)) ∧ H' sa = some (.dT (kvW ws)) ∧ RI n A p r rest paid hs ∧ WS hs ws ∧ ws.length + left rest ≤ 12 ∧ m = left rest
theorem filter_range {f : Nat → Bool} {j : Nat} : (List.range (j + 1)).filter f = (List.range j).filter f ++ if f j = true then [j] else [] := by
  rw [List.range_succ, List.filter_append, List.filter_cons, List.filter_nil]
theorem mem_take1 {l : List Int} {i : Nat} {x0 x : Int} (h : l[i]? = some x0) (m : x ∈ l.take (i + 1)) : x ∈ l.take i ∨ x = x0 := by
  rw [List.take_add_one, h] at m
  rcases List.mem_append.mp m with q | q
  · exact .inl q
  · exact .inr (by simpa using q)
def GI (n r : Int) (E : Int → Int → Prop) (i : Nat) (g : V) (H3 : Hp) : Prop :=
  (g = .non ∧ ∀ x, x ∈ (pplI n).take i → r ∈ rset n E x) ∨
  ∃ (ga : Addr) (ys : List Int), g = .ref ga ∧ H3 ga = some (.lst (List.map V.int ys)) ∧ (∃ x, (1 ≤ x ∧ x ≤ n) ∧ ys.Perm (rset n E x)) ∧ ¬ r ∈ ys ∧ ∀ x, x ∈ (pplI n).take i → ¬ r ∈ rset n E x → ys.length ≤ (rset n E x).length
theorem GI.kp {n r : Int} {E : Int → Int → Prop} {i : Nat} {g : V} {H H' : Hp} (G : GI n r E i g H) (k : Kp H H') : GI n r E i g H' := by
  rcases G with h | ⟨ga, ys, h1, h2, h3⟩
  · exact .inl h
  · exact .inr ⟨ga, ys, h1, k.lst h2, h3⟩
theorem GI.skip {n r : Int} {E : Int → Int → Prop} {i : Nat} {g : V} {H : Hp} (G : GI n r E i g H) {x0 : Int} (h : (pplI n)[i]? = some x0) (hr : r ∈ rset n E x0) : GI n r E (i + 1) g H := by
  rcases G with ⟨h1, h2⟩ | ⟨ga, ys, h1, h2, h3, h4, h5⟩
  · refine .inl ⟨h1, fun x hx => ?_⟩
    rcases mem_take1 h hx with q | q
    · exact h2 x q
    · rw [q]; exact hr
  · refine .inr ⟨ga, ys, h1, h2, h3, h4, fun x hx hn => ?_⟩
    rcases mem_take1 h hx with q | q
    · exact h5 x q hn
    · rw [q] at hn; exact absurd hr hn
theorem GI.keep {n r : Int} {E : Int → Int → Prop} {i : Nat} {ga : Addr} {ys zs : List Int} {H : Hp} (G : GI n r E i (.ref ga) H) (hy : H ga = some (.lst (List.map V.int ys))) {x0 : Int} (h : (pplI n)[i]? = some x0) (hz : zs.Perm (rset n E x0)) (hl : ¬ zs.length < ys.length) : GI n r E (i + 1) (.ref ga) H := by
  rcases G with ⟨h1, h2⟩ | ⟨ga', ys', h1, h2, h3, h4, h5⟩
  · cases h1
  · cases h1
    rw [hy] at h2
    have e : ys = ys' := by
      have := HO.lst.inj (Option.some.inj h2)
      exact List.map_inj_right (fun _ _ e => V.int.inj e) |>.mp this
    subst e
    refine .inr ⟨ga, ys, rfl, hy, h3, h4, fun x hx hn => ?_⟩
    rcases mem_take1 h hx with q | q
    · exact h5 x q hn
    · rw [q, ← hz.length_eq]
      omega
theorem GI.put {n r : Int} {E : Int → Int → Prop} {i : Nat} {ga : Addr} {g : V} {zs : List Int} {H : Hp} (G : GI n r E i g H) (hz : H ga = some (.lst (List.map V.int zs))) {x0 : Int} (h : (pplI n)[i]? = some x0) (hp : zs.Perm (rset n E x0)) (hr : ¬ r ∈ zs)
    (hl : g = .non ∨ ∃ g0 ys, g = .ref g0 ∧ H g0 = some (.lst (List.map V.int ys)) ∧ zs.length < ys.length) : GI n r E (i + 1) (.ref ga) H := by
  refine .inr ⟨ga, zs, rfl, hz, ⟨x0, mem_ppl.mp (List.mem_of_getElem? h), hp⟩, hr, fun x hx hn => ?_⟩
  rcases mem_take1 h hx with q | q
  · rcases G with ⟨h1, h2⟩ | ⟨ga', ys', h1, h2, h3, h4, h5⟩
    · exact absurd (h2 x q) hn
    · rcases hl with z | ⟨g0, ys, e1, e2, e3⟩
      · rw [z] at h1; cases h1
      · rw [e1] at h1
        cases h1
        rw [h2] at e2
        have e : ys' = ys := List.map_inj_right (fun _ _ e => V.int.inj e) |>.mp (HO.lst.inj (Option.some.inj e2))
        subst e
        have := h5 x q hn
        omega
  · rw [q, ← hp.length_eq]
    exact Nat.le_refl _
def OW (H1 : Hp) (n r : Int) (E : Int → Int → Prop) (a b ra pa sa : Addr) (i : Nat) (σ : L2.St) (H3 : Hp) : Prop := ∃ g y7 y8 y9 y10 y11 y12 y13 y14, σ = [some (.ref a), some (.ref b), some (.int r), some (.ref ra), some (.ref pa), some (.ref sa), some g, y7, y8, y9, y10, y11, y12, y13, y14] ∧ Kp H1 H3 ∧ GI n r E i g H3
theorem ixN_n {n j : Nat} (hj : j < n) : ixN n (j : Int) = some j := by
  unfold ixN
  rw [if_pos (by omega), if_pos (by omega), Int.toNat_natCast]
theorem ent_at {A : Arcs} {S : List Int} {k : Nat} {u v : Int} (e : A[k]? = some (u, v)) : ent A S k = (decide (v ∈ S) && !decide (u ∈ S)) := by
  rw [Bool.eq_iff_iff, ent_iff, Bool.and_eq_true, decide_eq_true_iff, Bool.not_eq_true', decide_eq_false_iff_not]
  constructor
  · rintro ⟨u', v', e', h1, h2⟩
    rw [e] at e'
    cases e'
    exact ⟨h1, h2⟩
  · rintro ⟨h1, h2⟩
    exact ⟨u, v, e, h1, h2⟩
abbrev intos (A : Arcs) (S : List Int) (j : Nat) : List Nat := (List.range j).filter (ent A S)
theorem mem_intos {A : Arcs} {S : List Int} {k : Nat} : k ∈ intos A S A.length ↔ k < A.length ∧ ent A S k = true := by rw [List.mem_filter, List.mem_range]
/-- within the last loop: j of the arcs are done -/
structure LI (rest rest' : List Int) (paid' paid into : List Nat) (y : Int) (j : Nat) : Prop where
  len : rest'.length = rest.length
  at_ : ∀ k, k < rest.length → rest'.getD k 0 = if k ∈ into.take j then rest.getD k 0 - y else rest.getD k 0
  pd : paid' = paid ++ (into.take j).filter fun k => decide (rest.getD k 0 - y = 0)
theorem LI.step {rest rest' : List Int} {paid paid' into : List Nat} {y : Int} {j k : Nat} (L : LI rest rest' paid' paid into y j) (hn : into.Nodup) (hk : into[j]? = some k) (hl : k < rest.length) :
    rest'.getD k 0 = rest.getD k 0 ∧ LI rest (rest'.set k (rest.getD k 0 - y)) (paid' ++ if decide (rest.getD k 0 - y = 0) = true then [k] else []) paid into y (j + 1) := by
  have nk : ¬ k ∈ into.take j := fun m => by
    obtain ⟨i, hi, e⟩ := List.getElem_of_mem m
    rw [List.length_take] at hi
    rw [List.getElem_take] at e
    have := (List.getElem?_inj (by omega) hn).mp (show into[i]? = into[j]? by rw [hk, List.getElem?_eq_getElem (by omega), e])
    omega
  have e0 := L.at_ k hl
  rw [if_neg nk] at e0
  refine ⟨e0, by rw [List.length_set]; exact L.len, fun i hi => ?_, ?_⟩
  · rw [List.getD_eq_getElem?_getD, List.take_add_one, hk]
    by_cases q : k = i
    · subst q
      rw [List.getElem?_set_self (by rw [L.len]; exact hl), if_pos (List.mem_append_right _ (by simp))]
      rfl
    · rw [List.getElem?_set_ne q, ← List.getD_eq_getElem?_getD, L.at_ i hi]
      have : (i ∈ into.take j ++ (some k).toList) ↔ i ∈ into.take j := by
        rw [List.mem_append]
        constructor
        · rintro (z | z)
          · exact z
          · exact absurd (by simpa using z) (fun e : i = k => q e.symm)
        · exact .inl
      simp only [this]
  · rw [L.pd, take_flt (fun k => decide (rest.getD k 0 - y = 0)) hk, List.append_assoc]
def FW (H : Hp) (n r : Int) (a b ra pa sa ga D : Addr) (ws : Ws) (rest : List Int) (paid into : List Nat) (y : Int) (j : Nat) (σ : L2.St) (H' : Hp) : Prop := ∃ rest' paid' y7 y8 y11 y12 y13 y14, σ = [some (.ref a), some (.ref b), some (.int r), some (.ref ra), some (.ref pa), some (.ref sa), some (.ref ga), y7, y8, some (.ref D), some (.int y), y11, y12, y13, y14] ∧
  Kp H H' ∧ H' D = some (.lst (List.map kV0 into)) ∧ H' ra = some (.lst (List.map V.int rest')) ∧ H' pa = some (.lst (List.map kV0 paid')) ∧ H' sa = some (.dT (kvW ws)) ∧ LI rest rest' paid' paid into y j
theorem ok_raised {f : Addr} {fd : FuncData} {k : Nat} (F : Fun K "raised" "raised" sRaised f fd) (M : Free mg) (CH : Cal P w K mg base "hearers" k ["web", "begin"] spHearers) (CP : Cal P w K mg base "people" k ["web"] spPeople) (CR : Cal P w K mg base "reaching" k ["arcs", "rest", "goal"] spReaching) : FnOk P w K mg base CX0 (k + 1) f fd ["web", "prices", "person"] spRaised := by
  refine F.ok scRaised (fun vs H Q E h => ?_) (fun cdv A' outer s H vs Q E hr h => ?_)
  · obtain ⟨_, _, _, _, _, _, rfl, _⟩ := h
    rfl
  · obtain ⟨a, b, n, r, A, p, rfl, ⟨b0, ps, ha, hA⟩, Wb, hp, po, hr1, hr2, hwin, q⟩ := h
    have hu1 : (A'.deeper (envOfC "raised" (defScope sRaised) s.heap.objs.size f cdv)).units + 1 < cLine := by
      have := hr.un
      omega
    have h6 := Wb.hi
    have hlo := Wb.lo
    have h12 := Wb.few
    refine ⟨_,
      ((pss_cons (ps_asg (pe_tup (pa_cons (pe_callTy call_list_of (by rfl) M.list b_list (pa_cons (pv 1) pa_nil)) (pa_cons (pe_lc (own := [("k", 11), ("price", 12)]) rfl scRaised.nd (N8.pi_enumT (by rfl) M.enum (pa_cons (pv 1) pa_nil)) (blkOk_by (own := [("k", 11), ("price", 12)]) (N := ["web", "prices", "person", "rest", "paid", "sets", "group", "one", "some", "into", "size", "k", "price", "source", "goal"]) (sc := defScope sRaised) (by decide +kernel)) (fun _ _ _ _ _ => (pgT (K := K) (n := 2) rfl (pgs_cons (pg_name (i := 11) scRaised.nd rfl (Or.inl rfl)) (pgs_cons (pg_name (i := 12) scRaised.nd rfl (Or.inl rfl)) pgs_nil)))) (fun _ _ _ _ _ => (pts_one (pt_cmpR op_eq (pv 12) pe_int (nomark _)))) (fun _ _ _ _ _ => (pv 11))) (pa_cons pe_dnewT pa_nil)))) (pg_tup rfl (pgs_cons (pg_name (i := 3) scRaised.nd rfl (Or.inr rfl)) (pgs_cons (pg_name (i := 4) scRaised.nd rfl (Or.inl rfl)) (pgs_cons (pg_name (i := 5) scRaised.nd rfl (Or.inl rfl)) pgs_nil)))))
      (pss_cons (ps_if (pt_cmpR op_lt (pe_callB call_lenD (by rfl) M.len PySem.boot_len (pa_cons (pe_c CH hr (by rfl) (pa_cons (pv 0) (pa_cons (pe_lst (pa_cons (pv 2) pa_nil)) pa_nil))) pa_nil)) (pe_ix ix_tup (pv 0) pe_int (fun _ _ => rfl)) (nomark _)) (pss_one (ps_ret pe_non)) pss_nil)
      (pss_one (ps_while PassesOwn.never (pt_val pe_bl) (pss_cons (ps_set (i := 6) scRaised.nd rfl (Or.inr rfl) pe_non)
      (pss_cons (ps_for PassesOwn.never rfl (pi_tup (pe_c CP hr (by rfl) (pa_cons (pv 0) pa_nil))) (pg_name (i := 7) scRaised.nd rfl (Or.inl rfl)) (pss_cons (ps_set (i := 8) scRaised.nd rfl (Or.inl rfl) (pe_c CR hr (by rfl) (pa_cons (pe_ix ix_tup (pv 0) pe_int (fun _ _ => rfl)) (pa_cons (pv 3) (pa_cons (pv 7) pa_nil)))))
      (pss_one (ps_if (PW.pt (pw_and (pt_cmpR op_notIn_seq (pv 2) (pv 8) (by rfl)) (pw_and1 (PW.pt (pw_or (pt_cmpR op_isN (pv 6) pe_non (nomark _)) (pw_or1 (pt_cmpR op_lt (pe_callB call_len_seq (by rfl) M.len PySem.boot_len (pa_cons (pv 8) pa_nil)) (pe_callB call_len_seq (by rfl) M.len PySem.boot_len (pa_cons (pv 6) pa_nil)) (nomark _)))))))) (pss_one (ps_set (i := 6) scRaised.nd rfl (Or.inr rfl) (pv 8))) pss_nil))))
      (pss_cons (ps_if (pt_cmpR op_isN (pv 6) pe_non (nomark _)) (pss_one (ps_ret (pe_tup (pa_cons (pv 5) (pa_cons (pv 4) pa_nil))))) pss_nil)
      (pss_cons (ps_setLc (i := 9) (own := [("k", 11), ("source", 13), ("goal", 14)]) rfl scRaised.nd rfl rfl (sw_true rfl rfl rfl (by decide +kernel)) (N8.pi_enumT (by rfl) M.enum (pa_cons (pe_ix ix_tup (pv 0) pe_int (fun _ _ => rfl)) pa_nil)) (blkOk_by (own := [("k", 11), ("source", 13), ("goal", 14)]) (N := ["web", "prices", "person", "rest", "paid", "sets", "group", "one", "some", "into", "size", "k", "price", "source", "goal"]) (sc := defScope sRaised) (by decide +kernel)) (fun _ _ _ _ _ => (pgT (K := K) (n := 2) rfl (pgs_cons (pg_name (i := 11) scRaised.nd rfl (Or.inl rfl)) (pgs_cons (pgT (K := K) (n := 2) rfl (pgs_cons (pg_name (i := 13) scRaised.nd rfl (Or.inl rfl)) (pgs_cons (pg_name (i := 14) scRaised.nd rfl (Or.inl rfl)) pgs_nil))) pgs_nil)))) (fun _ _ _ _ _ => (pts_one (PW.pt (pw_and (pt_cmpR (inS (K := K)) (pv 14) (pv 6) (by rfl)) (pw_and1 (pt_cmpR (notInS (K := K)) (pv 13) (pv 6) (by rfl))))))) (fun _ _ _ _ _ => (pv 11)))
      (pss_cons (ps_set (i := 10) scRaised.nd rfl (Or.inl rfl) (pe_callB (cr_min rfl) (by rfl) M.min_ b_min (pa_cons (pe_lc (own := [("k", 11)]) rfl scRaised.nd (pi_list (pv 9)) (blkOk_by (own := [("k", 11)]) (N := ["web", "prices", "person", "rest", "paid", "sets", "group", "one", "some", "into", "size", "k", "price", "source", "goal"]) (sc := defScope sRaised) (by decide +kernel)) (fun _ _ _ _ _ => (pg_name (i := 11) scRaised.nd rfl (Or.inl rfl))) (fun _ _ _ _ _ => pts_nil) (fun _ _ _ _ _ => (pe_ix (ixL (K := K)) (pv 3) (pv 11) (fun _ _ => rfl)))) pa_nil)))
      (pss_cons (ps_dput hu1 (pv 5) (pe_tupleOf (by rfl) M.tuple (pv 6)) (pe_op op_add (pe_dget2 hu1 (pv 5) (pe_tupleOf (by rfl) M.tuple (pv 6)) pe_int ⟨rfl, rfl, rfl, rfl⟩) (pv 10)) (by rfl))
      (pss_one (ps_for PassesOwn.never rfl (pi_list (pv 9)) (pg_name (i := 11) scRaised.nd rfl (Or.inl rfl)) (pss_cons (ps_asg (pe_op op_sub (pe_ix ix_list (pv 3) (pv 11) (fun _ _ => rfl)) (pv 10)) (pg_sub (pv 3) (pv 11) set_list))
      (pss_one (ps_if (pt_cmpR op_eq (pe_ix ix_list (pv 3) (pv 11) (fun _ _ => rfl)) pe_int (nomark _)) (pss_one (ps_expr (pe_bm PySem.F.plainAttrs_list PySem.F.slot_list_append PySem.F.type_list_append mt_append (pv 4) (pa_cons (pv 11) pa_nil)))) pss_nil))))))))))))))))
      , ?_⟩
    refine ⟨_, rfl, b, _, rfl, .inr (SqT.of hp), fun ra nra => ?_⟩
    refine ⟨_, rfl, b, _, rfl, SqT.of ((Kp.upd nra).tup hp), fun pa npa => ?_⟩
    refine lc_it N8.walk_enumT (fun j H3 => Kp (upd H ra (.lst (p.map V.int))) H3 ∧ H3 pa = some (.lst (List.map kV0 (zeros p j)))) ⟨Kp.upd npa, upd_same⟩ (fun j H' _ ⟨kp, _⟩ => SqT.of (((Kp.upd nra).trans kp).tup hp)) ?_ ?_
    · rintro j x H3 H4 hj ⟨kp3, hD3⟩ ⟨T, w1, w2, rfl, nT, rfl, e1, e2⟩
      cases (Option.some.inj e1 : V.int (j : Nat) = w1)
      replace e2 : (p.map V.int)[j]? = some w2 := e2
      rw [List.getElem?_map] at e2
      obtain ⟨x, hx, rfl⟩ := Option.map_eq_some_iff.mp e2
      have ex : p.getD j 0 = x := K84.getD_some hx
      have jl : j < 12 := by
        rw [List.length_map, po.len] at hj
        omega
      refine ⟨T, _, rfl, SqT.of upd_same, rfl, _, _, rfl, _, _, rfl, rfl, rfl, _, rfl, rfl, _, rfl, ?_⟩
      have kp4 := kp3.new (o := .tup [.int (j : Nat), .int x]) nT
      have hD4 : upd H3 T (.tup [.int (j : Nat), .int x]) pa = _ := (upd_ne (ne_of_none hD3 nT)).trans hD3
      generalize upd H3 T (.tup [.int (j : Nat), .int x]) = H4 at kp4 hD4 ⊢
      have ft : zeros p (j + 1) = zeros p j ++ if decide (p.getD j 0 = 0) = true then [j] else [] := filter_range (f := fun k => decide (p.getD k 0 = 0)) (j := j)
      rw [ex] at ft
      have eT : decide (V.int x = V.int 0) = decide (x = 0) := by simp
      rw [eT]
      by_cases hz : x = 0
      · rw [decide_eq_true hz] at ft ⊢
        refine iteT ⟨_, rfl, _, hD4, ?_, kp4.mut npa, ?_⟩
        · have h1 : (zeros p j).length ≤ (List.range j).length := List.length_filter_le (fun k => decide (p.getD k 0 = 0)) (List.range j)
          rw [List.length_range] at h1
          rw [List.length_map, sizeLine_eq]
          omega
        · rw [upd_same, ft, if_pos rfl, List.map_append]
          rfl
      · rw [decide_eq_false hz] at ft ⊢
        refine iteF ⟨kp4, ?_⟩
        rw [hD4, ft, if_neg (by decide), List.append_nil]
    rintro H3 ⟨kp3, hpa3⟩
    rw [List.length_map] at hpa3
    intro sa nsa
    refine ⟨by rw [sizeLine_eq]; show 3 ≤ 16777216; decide, fun tp ntp => ?_⟩
    refine ⟨tp, _, rfl, SqT.of upd_same, rfl, _, _, rfl, _, _, rfl, _, _, rfl, rfl, ?_⟩
    have hra3 : H3 ra = some (.lst (p.map V.int)) := kp3.lst upd_same
    have fpa : H pa = none := (Kp.upd nra).free npa
    have fsa : H sa = none := ((Kp.upd nra).trans kp3).free nsa
    have rapa : ra ≠ pa := ne_of_none upd_same npa
    have rasa : ra ≠ sa := ne_of_none hra3 nsa
    have pasa : pa ≠ sa := ne_of_none hpa3 nsa
    have kp0 : Kp H (upd (upd H3 sa (.dT [])) tp (.tup [.ref ra, .ref pa, .ref sa])) := (((Kp.upd nra).trans kp3).new nsa).new ntp
    have hsa0 : upd (upd H3 sa (.dT [])) tp (.tup [.ref ra, .ref pa, .ref sa]) sa = some (.dT (kvW [])) := by
      rw [upd_ne (ne_of_none upd_same ntp), upd_same]
      rfl
    have hra0 : upd (upd H3 sa (.dT [])) tp (.tup [.ref ra, .ref pa, .ref sa]) ra = some (.lst (p.map V.int)) := by
      have : upd H3 sa (.dT []) ra = some (.lst (p.map V.int)) := (upd_ne rasa).trans hra3
      rw [upd_ne (ne_of_none this ntp), this]
    have hpa0 : upd (upd H3 sa (.dT [])) tp (.tup [.ref ra, .ref pa, .ref sa]) pa = some (.lst (List.map kV0 (zeros p p.length))) := by
      have : upd H3 sa (.dT []) pa = some (.lst (List.map kV0 (zeros p p.length))) := (upd_ne pasa).trans hpa3
      rw [upd_ne (ne_of_none this ntp), this]
    generalize upd (upd H3 sa (.dT [])) tp (.tup [.ref ra, .ref pa, .ref sa]) = H0 at kp0 hsa0 hra0 hpa0 ⊢
    clear hra3 hpa3 kp3 nsa npa ntp H3
    refine ⟨_, rfl, _, rfl, by rw [sizeLine_eq]; show 1 ≤ 16777216; decide, fun l nl => ?_⟩
    have kp1 := kp0.new (o := .lst [.int r]) nl
    have hsa1 : upd H0 l (.lst [.int r]) sa = _ := (upd_ne (ne_of_none hsa0 nl)).trans hsa0
    have hra1 : upd H0 l (.lst [.int r]) ra = _ := (upd_ne (ne_of_none hra0 nl)).trans hra0
    have hpa1 : upd H0 l (.lst [.int r]) pa = _ := (upd_ne (ne_of_none hpa0 nl)).trans hpa0
    refine ⟨a, l, n, r, A, rfl, ⟨b0, ps, kp1.tup ha, hA.kp kp1⟩, Web.inR Wb, ⟨hr1, hr2⟩, h6, upd_same, fun d H2 kvs kp2 hd hk => ?_⟩
    have kp3 := kp1.trans kp2
    refine ⟨d, kvs, rfl, hd, _, rfl, a, _, _, _, rfl, rfl, SqT.of (kp3.tup ha), atI_nat (j := 0) rfl, _, _, rfl, rfl, _, rfl, ?_⟩
    rw [hk.2.mpr hwin, decide_eq_false (Int.lt_irrefl n)]
    refine iteF ?_
    have RI0 : RI n A p r p (zeros p p.length) [] := RI.begin po.len (fun k hk => po.rng _ (List.mem_of_getElem? (K84.some_getD (by rw [po.len]; exact hk))) |>.1) (fun k => by
      rw [List.mem_filter, List.mem_range, decide_eq_true_iff, po.len]) (List.nodup_range.sublist List.filter_sublist)
    have lf : left p ≤ 12 := by
      have := List.length_filter_le (fun x : Int => decide (x ≠ 0)) p
      have h2 := po.len
      unfold left
      omega
    refine ⟨QW H n A p r a b ra pa sa, ⟨_, p, zeros p p.length, [], [], _, _, _, _, _, _, _, _, _, rfl, kp3, kp2.lst hra1, kp2.lst hpa1, kp2.dT hsa1, RI0, ⟨by simp, fun w h => absurd h List.not_mem_nil, rfl⟩, by simpa using lf, rfl⟩, ?_⟩
    clear RI0 lf hsa1 hra1 hpa1 kp1 kp2 kp3 hd hk hra0 hsa0 hpa0 kp0
    rintro m σ H1 ⟨rest, paid, hs, ws, y6, y7, y8, y9, y10, y11, y12, y13, y14, rfl, kp1, hra1, hpa1, hsa1, R, W, few, rfl⟩
    refine ⟨true, rfl, iteT ⟨fun σ' H' => ∃ m', m' < left rest ∧ QW H n A p r a b ra pa sa m' σ' H', fun _ _ h => h, ?_⟩⟩
    refine ⟨_, rfl, a, n, A, rfl, ⟨b0, ps, kp1.tup ha, hA.kp kp1⟩, hlo, h6, fun pp H2 kp2 hpp => ⟨pp, rfl, ⟨_, SqT.of hpp⟩, ?_⟩⟩
    refine for_it walk_tup (OW H2 n r (PdE A rest) a b ra pa sa) ⟨.non, _, _, _, _, _, _, _, _, rfl, Kp.refl H2, .inl ⟨rfl, fun x h => absurd h (by rw [List.take_zero]; exact List.not_mem_nil)⟩⟩ (fun i σ H' _ ⟨_, _, _, _, _, _, _, _, _, _, kp, _⟩ => SqT.of (kp.tup hpp)) ?_ ?_
    · rintro i x σ H3 H4 hi ⟨g, z7, z8, z9, z10, z11, z12, z13, z14, rfl, kp3, G⟩ ⟨rfl, hx⟩
      rw [List.getElem?_map] at hx
      obtain ⟨x0, hx0, rfl⟩ := Option.map_eq_some_iff.mp hx
      have hxn := mem_ppl.mp (List.mem_of_getElem? hx0)
      have kp4 := kp1.trans (kp2.trans kp3)
      have hra4 := kp3.lst (kp2.lst hra1)
      refine ⟨_, rfl, a, _, _, _, rfl, rfl, SqT.of (kp4.tup ha), atI_nat (j := 1) rfl, _, rfl, _, rfl, b0, ra, n, x0, A, ps, rest, rfl, hA.kp kp4, Wb, hra4, R.len, hxn.1, hxn.2, fun D H5 ys kp5 hD hnd hmem => ?_⟩
      have hperm : ys.Perm (rset n (PdE A rest) x0) := rset_of hnd hmem
      have G5 := G.kp kp5
      have kp6 := kp3.trans kp5
      refine ⟨_, rfl, _, rfl, D, _, rfl, .inl (SqL.of hD), rfl, int_flat _, _, rfl, ?_⟩
      have q1 : (if true = true then !inV (V.int r) (ys.map V.int) else inV (V.int r) (ys.map V.int)) = !decide (r ∈ ys) := congrArg (!·) (int_in r ys)
      rw [q1]
      by_cases hr : r ∈ ys
      · rw [decide_eq_true hr]
        exact iteF (iteF ⟨g, _, _, _, _, _, _, _, _, rfl, kp6, G5.skip hx0 (hperm.mem_iff.mp hr)⟩)
      · rw [decide_eq_false hr]
        refine iteT ⟨_, rfl, rfl, _, rfl, ?_⟩
        rcases hG : G5 with ⟨rfl, h2⟩ | ⟨ga, zs, rfl, h2, h3, h4, h5⟩
        · rw [decide_eq_true rfl]
          exact iteT (iteT ⟨_, rfl, _, _, _, _, _, _, _, _, _, rfl, kp6, G5.put hD hx0 hperm hr (.inl rfl)⟩)
        · rw [decide_eq_false (fun z => nomatch z)]
          refine iteF ⟨_, rfl, D, _, rfl, .inl (SqL.of hD), _, rfl, ga, _, rfl, .inl (SqL.of h2), _, _, rfl, rfl, _, rfl, ?_⟩
          by_cases hlt : ys.length < zs.length
          · rw [decide_eq_true (show ((List.map V.int ys).length : Int) < ((List.map V.int zs).length : Nat) by rw [List.length_map, List.length_map]; omega)]
            exact iteT ⟨_, rfl, _, _, _, _, _, _, _, _, _, rfl, kp6, G5.put hD hx0 hperm hr (.inr ⟨ga, zs, rfl, h2, hlt⟩)⟩
          · rw [decide_eq_false (show ¬ ((List.map V.int ys).length : Int) < ((List.map V.int zs).length : Nat) by rw [List.length_map, List.length_map]; omega)]
            exact iteF ⟨_, _, _, _, _, _, _, _, _, rfl, kp6, G5.keep h2 hx0 hperm hlt⟩
    · rintro σ H3 ⟨g, z7, z8, z9, z10, z11, z12, z13, z14, rfl, kp3, G⟩
      rw [show (List.map V.int (pplI n)).length = (pplI n).length from List.length_map _] at G
      have tkAll : (pplI n).take (pplI n).length = pplI n := List.take_length
      have kp4 := kp1.trans (kp2.trans kp3)
      have hra4 := kp3.lst (kp2.lst hra1)
      have hpa4 := kp3.lst (kp2.lst hpa1)
      have hsa4 := kp3.dT (kp2.dT hsa1)
      rcases hG : G with ⟨rfl, h2⟩ | ⟨ga, ys, rfl, hga, ⟨x0, hx0, hperm⟩, hnr, hle⟩
      · refine ⟨_, rfl, rfl, _, rfl, ?_⟩
        rw [decide_eq_true rfl]
        refine iteT ⟨_, rfl, _, rfl, by rw [sizeLine_eq]; show 2 ≤ 16777216; decide, fun t nt => ?_⟩
        have kt := (Kp.refl H3).new (o := .tup [.ref sa, .ref pa]) nt
        refine q t sa pa _ paid ws (wsum hs) (kp4.trans kt) upd_same (kt.dT hsa4) (kt.lst hpa4) ⟨hs, R.finish fun x hx1 hx2 => h2 x ?_, W, rfl⟩
        rw [tkAll]
        exact mem_ppl.mpr ⟨hx1, hx2⟩
      have L : Least n r (PdE A rest) ys := ⟨⟨x0, hx0, hperm⟩, hnr, fun x h1 h2 hn => hle x (by rw [tkAll]; exact mem_ppl.mpr ⟨h1, h2⟩) hn⟩
      refine ⟨_, rfl, rfl, _, rfl, ?_⟩
      rw [decide_eq_false (fun z => nomatch z)]
      refine iteF ⟨_, rfl, a, _, _, _, rfl, rfl, SqT.of (kp4.tup ha), atI_nat (j := 1) rfl, b0, _, rfl, SqT.of (kp4.tup hA.tup), fun D nD => ?_⟩
      refine lc_it N8.walk_enumT (fun j H4 => Kp H3 H4 ∧ H4 D = some (.lst (List.map kV0 (intos A ys j)))) ⟨Kp.upd nD, upd_same⟩ (fun j H' _ ⟨kp, _⟩ => SqT.of ((kp4.trans kp).tup hA.tup)) ?_ ?_
      · rintro j x H5 H6 hj ⟨kp5, hD5⟩ ⟨T, w1, w2, rfl, nT, rfl, e1, e2⟩
        cases (Option.some.inj e1 : V.int (j : Nat) = w1)
        replace e2 : (ps.map V.ref)[j]? = some w2 := e2
        rw [List.getElem?_map] at e2
        obtain ⟨pq, hpq, rfl⟩ := Option.map_eq_some_iff.mp e2
        obtain ⟨⟨u, v⟩, he, hpp'⟩ := hA.got hpq
        have jl : j < 12 := by
          rw [List.length_map, hA.len] at hj
          omega
        have kp6 := kp5.new (o := .tup [.int (j : Nat), .ref pq]) nT
        have hD6 : upd H5 T (.tup [.int (j : Nat), .ref pq]) D = _ := (upd_ne (ne_of_none hD5 nT)).trans hD5
        have tT : upd H5 T (.tup [.int (j : Nat), .ref pq]) T = some (.tup [.int (j : Nat), .ref pq]) := upd_same
        generalize upd H5 T (.tup [.int (j : Nat), .ref pq]) = H6 at kp6 hD6 tT ⊢
        refine ⟨T, _, rfl, SqT.of tT, rfl, _, _, rfl, _, _, rfl, pq, _, rfl, SqT.of ((kp4.trans kp6).tup hpp'), rfl, _, _, rfl, _, _, rfl, rfl, rfl, rfl, ?_⟩
        have hga6 := kp6.lst hga
        have ft : intos A ys (j + 1) = intos A ys j ++ if ent A ys j = true then [j] else [] := filter_range
        rw [ent_at he] at ft
        have sm : (intos A ys j).length ≤ j := by
          have := List.length_filter_le (ent A ys) (List.range j)
          rw [List.length_range] at this
          exact this
        refine ⟨_, rfl, _, rfl, ga, _, rfl, .inl (SqL.of hga6), rfl, int_flat _, _, rfl, ?_⟩
        have q1 : (if false = true then !inV (V.int v) (ys.map V.int) else inV (V.int v) (ys.map V.int)) = decide (v ∈ ys) := int_in v ys
        have q2 : (if true = true then !inV (V.int u) (ys.map V.int) else inV (V.int u) (ys.map V.int)) = !decide (u ∈ ys) := congrArg (!·) (int_in u ys)
        rw [q1]
        by_cases hv : v ∈ ys
        · rw [decide_eq_true hv] at ft ⊢
          refine iteT ⟨_, rfl, _, rfl, ga, _, rfl, .inl (SqL.of hga6), rfl, int_flat _, _, rfl, ?_⟩
          rw [q2]
          by_cases hu : u ∈ ys
          · rw [decide_eq_true hu] at ft ⊢
            refine iteF ⟨kp6, ?_⟩
            rw [hD6, ft, if_neg (by decide), List.append_nil]
          · rw [decide_eq_false hu] at ft ⊢
            refine iteT ⟨_, rfl, _, hD6, by rw [List.length_map, sizeLine_eq]; omega, kp6.mut nD, ?_⟩
            rw [upd_same, ft, if_pos (by decide), List.map_append]
            rfl
        · rw [decide_eq_false hv] at ft ⊢
          refine iteF (iteF ⟨kp6, ?_⟩)
          rw [hD6, ft, if_neg (by simp), List.append_nil]
      rintro H4 ⟨kp5, hD⟩
      rw [List.length_map, hA.len] at hD
      have imem : ∀ k, k ∈ intos A ys A.length ↔ k < A.length ∧ ent A ys k = true := fun k => mem_intos
      have ind : (intos A ys A.length).Nodup := List.nodup_range.sublist List.filter_sublist
      have i12 : (intos A ys A.length).length ≤ 12 := by
        have := List.length_filter_le (ent A ys) (List.range A.length)
        rw [List.length_range] at this
        exact Nat.le_trans this h12
      have ine : ∃ k, k ∈ intos A ys A.length := by
        obtain ⟨k, h1, h2⟩ := R.some_in Wb L hwin.all
        exact ⟨k, (imem k).mpr ⟨h1, h2⟩⟩
      generalize intos A ys A.length = into at hD imem ind i12 ine
      have Dra : D ≠ ra := fun e => by rw [e, hra4] at nD; cases nD
      have Dpa : D ≠ pa := fun e => by rw [e, hpa4] at nD; cases nD
      have Dsa : D ≠ sa := fun e => by rw [e, hsa4] at nD; cases nD
      have kp6 := kp4.trans kp5
      have hra5 := kp5.lst hra4
      have hpa5 := kp5.lst hpa4
      have hsa5 := kp5.dT hsa4
      have hga5 := kp5.lst hga
      refine ⟨_, rfl, D, rfl, ⟨_, SqL.of hD⟩, fun D2 nD2 => ?_⟩
      refine lc_it (walk_list (xs := into.map kV0)) (fun j H5 => Kp H4 H5 ∧ H5 D2 = some (.lst ((into.take j).map fun k => V.int (rest.getD k 0)))) ⟨Kp.upd nD2, upd_same⟩ (fun j H' _ ⟨kp, _⟩ => SqL.of (kp.lst hD)) ?_ ?_
      · rintro j z H5 H6 hj ⟨kp7, hD5⟩ ⟨rfl, hy⟩
        rw [List.getElem?_map] at hy
        obtain ⟨one, ho, rfl⟩ := Option.map_eq_some_iff.mp hy
        have ok1 := ((imem one).mp (List.mem_of_getElem? ho)).1
        have hri : rest[one]? = some (rest.getD one 0) := K84.some_getD (by rw [R.len]; exact ok1)
        refine ⟨rfl, ?_⟩
        unfold tYes
        refine iteT ⟨_, rfl, _, rfl, ra, _, _, _, rfl, rfl, SqL.of (kp7.lst hra5), atI_nat (j := one) (v := .int (rest.getD one 0)) (by rw [List.getElem?_map, hri]; rfl), _, hD5, ?_, kp7.mut nD2, ?_⟩
        · rw [List.length_map, List.length_take, sizeLine_eq]
          omega
        · rw [upd_same, List.take_add_one, ho, List.map_append]
          rfl
      rintro H5 ⟨kp7, hD2⟩
      rw [List.length_map, List.take_length] at hD2
      have hD2' : H5 D2 = some (.lst (List.map V.int (into.map fun k => rest.getD k 0))) := by
        rw [hD2, List.map_map]
        rfl
      refine ⟨D2, into.map fun k => rest.getD k 0, rfl, SqL.of hD2', ?_, fun y hy hyle => ?_⟩
      · obtain ⟨k, hk⟩ := ine
        rw [List.length_map]
        exact List.length_pos_of_mem hk
      obtain ⟨kmin, hkm, ekm⟩ := List.mem_map.mp hy
      have hkmA := (imem kmin).mp hkm
      have ypos : 0 < y := by
        rw [← ekm]
        exact R.unpaid Wb L hkmA.1 hkmA.2
      have yle : ∀ k, k < A.length → ent A ys k = true → y ≤ rest.getD k 0 := fun k h1 h2 => hyle _ (List.mem_map_of_mem ((imem k).mpr ⟨h1, h2⟩))
      have kp8 := kp6.trans kp7
      have hra6 := kp7.lst hra5
      have hpa6 := kp7.lst hpa5
      have hsa6 := kp7.dT hsa5
      have hga6 := kp7.lst hga5
      have hD6 := kp7.lst hD
      clear hG G
      clear hra5 hpa5 hsa5 hga5 hra4 hpa4 hsa4 hra1 hpa1 hsa1 hga hD hD2 hD2'
      refine ⟨_, rfl, sa, rfl, .inr ⟨_, .inl hsa6⟩, _, rfl, .inl ⟨ga, _, rfl, SqL.of hga6, fun t1 nt1 => ?_⟩⟩
      have kpt := (Kp.refl H5).new (o := .tup (ys.map V.int)) nt1
      have kS_tup : (ys.map V.int) = (kS ys).map kV := by
        rw [List.map_map]
        rfl
      refine ⟨_, DGet.t (k := kS ys) (kpt.dT hsa6) (by rw [← kS_tup]; exact upd_same), ?_⟩
      have eo : ((valV (kvW ws) (kS ys)).getD (V.int 0)) = V.int ((getW ws ys).getD 0) := by
        rw [val_W]
        cases getW ws ys <;> rfl
      rw [eo]
      refine ⟨_, rfl, _, _, rfl, rfl, _, rfl, _, rfl, .inl ⟨ga, _, rfl, SqL.of (kpt.lst hga6), fun t2 nt2 => ?_⟩⟩
      have kp9 := (kp8.new (o := .tup (ys.map V.int)) nt1).new (o := .tup (ys.map V.int)) nt2
      have kpu := kpt.new (o := .tup (ys.map V.int)) nt2
      have hra7 := kpu.lst hra6
      have hpa7 := kpu.lst hpa6
      have hsa7 := kpu.dT hsa6
      have hD7 := kpu.lst hD6
      have ht2 : upd (upd H5 t1 (.tup (ys.map V.int))) t2 (.tup (ys.map V.int)) t2 = some (.tup ((kS ys).map kV)) := by rw [← kS_tup]; exact upd_same
      clear kpu kpt hra6 hpa6 hsa6 hD6 hga6 nt2 nt1
      generalize upd (upd H5 t1 (.tup (ys.map V.int))) t2 (.tup (ys.map V.int)) = H6 at kp9 hra7 hpa7 hsa7 hD7 ht2 ⊢
      obtain ⟨W2, wl⟩ := W.put (g := ys) (S := ys) (y := y) (Int.le_of_lt ypos)
      have ep : putK (kvW ws) (kS ys) (V.int ((getW ws ys).getD 0 + y)) = kvW (setW ws ys ((getW ws ys).getD 0 + y)) := put_W ws ys _
      have dp := DPut.t (k := kS ys) (v := V.int ((getW ws ys).getD 0 + y)) hsa7 ht2 (by rw [List.length_map, sizeLine_eq]; omega)
      rw [ep] at dp
      refine ⟨sa, _, rfl, dp, ?_⟩
      clear dp
      have kp10 : Kp H (upd H6 sa (.dT (kvW (setW ws ys ((getW ws ys).getD 0 + y))))) := kp9.mut fsa
      have hra8 : upd H6 sa (.dT (kvW (setW ws ys ((getW ws ys).getD 0 + y)))) ra = _ := (upd_ne rasa).trans hra7
      have hpa8 : upd H6 sa (.dT (kvW (setW ws ys ((getW ws ys).getD 0 + y)))) pa = _ := (upd_ne pasa).trans hpa7
      have hD8 : upd H6 sa (.dT (kvW (setW ws ys ((getW ws ys).getD 0 + y)))) D = _ := (upd_ne Dsa).trans hD7
      have hsa8 : upd H6 sa (.dT (kvW (setW ws ys ((getW ws ys).getD 0 + y)))) sa = some (.dT (kvW (setW ws ys ((getW ws ys).getD 0 + y)))) := upd_same
      generalize upd H6 sa (.dT (kvW (setW ws ys ((getW ws ys).getD 0 + y)))) = H7 at kp10 hra8 hpa8 hD8 hsa8 ⊢
      clear hra7 hpa7 hsa7 hD7 ht2 ep
      generalize setW ws ys ((getW ws ys).getD 0 + y) = ws2 at W2 wl hsa8
      refine ⟨_, rfl, D, rfl, ⟨_, SqL.of hD8⟩, ?_⟩
      have pd12 : ∀ {rest' : List Int} {paid' : List Nat} {j : Nat}, LI rest rest' paid' paid into y j → paid'.length ≤ 24 := fun {rest' paid' j} L => by
        have h1 := R.nd.length_le_of_subset (l₂ := List.range A.length) fun x hx => List.mem_range.mpr ((R.mem x).mp hx).1
        have h2 := List.length_filter_le (fun k => decide (rest.getD k 0 - y = 0)) (into.take j)
        rw [L.pd, List.length_append]
        rw [List.length_range] at h1
        rw [List.length_take] at h2
        omega
      refine for_it (walk_list (xs := into.map kV0)) (FW H n r a b ra pa sa ga D ws2 rest paid into y) ⟨rest, paid, _, _, _, _, _, _, rfl, kp10, hD8, hra8, hpa8, hsa8, ⟨rfl, fun k _ => by rw [List.take_zero, if_neg List.not_mem_nil], by rw [List.take_zero]; simp⟩⟩ (fun i σ H' _ ⟨_, _, _, _, _, _, _, _, _, _, h, _⟩ => SqL.of h) ?_ ?_
      · rintro j x σ H8 H9 hj ⟨rest', paid', v7, v8, v11, v12, v13, v14, rfl, kpa, hDa, hraa, hpaa, hsaa, LL⟩ ⟨rfl, hx⟩
        rw [List.getElem?_map] at hx
        obtain ⟨k, hk, rfl⟩ := Option.map_eq_some_iff.mp hx
        have kA := ((imem k).mp (List.mem_of_getElem? hk)).1
        have kR : k < rest.length := by rw [R.len]; exact kA
        obtain ⟨e0, LL2⟩ := LL.step ind hk kR
        have kR' : k < rest'.length := by rw [LL.len]; exact kR
        have hri : rest'[k]? = some (rest.getD k 0) := by rw [K84.some_getD kR', e0]
        refine ⟨_, rfl, _, rfl, ra, _, _, _, rfl, rfl, SqL.of hraa, atI_nat (j := k) (v := .int (rest.getD k 0)) (by rw [List.getElem?_map, hri]; rfl), _, rfl, _, _, rfl, rfl, ?_⟩
        refine ⟨_, rfl, _, rfl, ra, _, (k : Int), k, rfl, rfl, hraa, ixN_n (by rw [List.length_map]; exact kR'), ?_⟩
        have es : (List.map V.int rest').set k (V.int (rest.getD k 0 - y)) = List.map V.int (rest'.set k (rest.getD k 0 - y)) := List.map_set.symm
        have kpb : Kp H (upd H9 ra (.lst ((List.map V.int rest').set k (V.int (rest.getD k 0 - y))))) := kpa.mut nra
        have hrab : upd H9 ra (.lst ((List.map V.int rest').set k (V.int (rest.getD k 0 - y)))) ra = some (.lst (List.map V.int (rest'.set k (rest.getD k 0 - y)))) := by rw [upd_same, es]
        have hpab : upd H9 ra (.lst ((List.map V.int rest').set k (V.int (rest.getD k 0 - y)))) pa = _ := (upd_ne rapa.symm).trans hpaa
        have hsab : upd H9 ra (.lst ((List.map V.int rest').set k (V.int (rest.getD k 0 - y)))) sa = _ := (upd_ne rasa.symm).trans hsaa
        have hDb : upd H9 ra (.lst ((List.map V.int rest').set k (V.int (rest.getD k 0 - y)))) D = _ := (upd_ne Dra).trans hDa
        generalize upd H9 ra (.lst ((List.map V.int rest').set k (V.int (rest.getD k 0 - y)))) = H10 at kpb hrab hpab hsab hDb ⊢
        have hrj : (rest'.set k (rest.getD k 0 - y))[k]? = some (rest.getD k 0 - y) := List.getElem?_set_self kR'
        refine ⟨_, rfl, _, rfl, ra, _, _, _, rfl, rfl, SqL.of hrab, atI_nat (j := k) (v := .int (rest.getD k 0 - y)) (by rw [List.getElem?_map, hrj]; rfl), rfl, _, rfl, ?_⟩
        have eT : decide (V.int (rest.getD k 0 - y) = V.int 0) = decide (rest.getD k 0 - y = 0) := by simp
        rw [eT]
        have p24 := pd12 LL
        by_cases hz : rest.getD k 0 - y = 0
        · rw [decide_eq_true hz] at LL2 ⊢
          rw [if_pos rfl] at LL2
          refine iteT ⟨_, rfl, .inl ⟨rfl, _, SqL.of hpab⟩, _, rfl, pa, _, _, rfl, rfl, hpab, by rw [List.length_map, sizeLine_eq]; omega, ?_⟩
          refine ⟨_, _, _, _, _, _, _, _, rfl, kpb.mut fpa, (upd_ne Dpa).trans hDb, (upd_ne rapa).trans hrab, ?_, (upd_ne pasa.symm).trans hsab, LL2⟩
          rw [upd_same, List.map_append]
          rfl
        · rw [decide_eq_false hz] at LL2 ⊢
          rw [if_neg (by decide), List.append_nil] at LL2
          exact iteF ⟨_, _, _, _, _, _, _, _, rfl, kpb, hDb, hrab, hpab, hsab, LL2⟩
      · rintro σ H8 ⟨rest', paid', v7, v8, v11, v12, v13, v14, rfl, kpa, hDa, hraa, hpaa, hsaa, LL⟩
        have tk : into.take (into.map kV0).length = into := by rw [List.length_map, List.take_length]
        have LL2 : LI rest rest' paid' paid into y into.length := by
          rw [List.length_map] at LL
          exact LL
        have rl : rest'.length = A.length := LL2.len.trans R.len
        have rat : ∀ k, k < A.length → rest'.getD k 0 = if ent A ys k = true then rest.getD k 0 - y else rest.getD k 0 := fun k hk => by
          rw [LL2.at_ k (by rw [R.len]; exact hk), List.take_length]
          by_cases e : ent A ys k = true
          · rw [if_pos e, if_pos ((imem k).mpr ⟨hk, e⟩)]
          · rw [if_neg e, if_neg fun m => e ((imem k).mp m).2]
        have R2 : RI n A p r rest' paid' (hs ++ [(ys, y)]) := by
          rw [LL2.pd, List.take_length]
          refine R.step Wb L ypos yle rl rat (fun k => ?_) (ind.sublist List.filter_sublist)
          rw [List.mem_filter, imem, decide_eq_true_iff, and_assoc]
        have fall : left rest' < left rest := by
          refine left_falls LL2.len (fun k hk hz => ?_) ⟨kmin, by rw [R.len]; exact hkmA.1, ?_, ?_⟩
          · rw [R.len] at hk
            rw [rat k hk]
            by_cases e : ent A ys k = true
            · have := R.unpaid Wb L hk e
              omega
            · rw [if_neg e]
              exact hz
          · rw [ekm]
            omega
          · rw [rat kmin hkmA.1, if_pos hkmA.2, ekm]
            omega
        exact ⟨left rest', fall, rest', paid', hs ++ [(ys, y)], ws2, _, _, _, _, _, _, _, _, _, rfl, kpa, hraa, hpaa, hsaa, R2, W2, by omega, rfl⟩
end
end B84
namespace B84
open PySem PySem.Spec PyProof.Rows L2 K84
theorem cost_le {p : List Int} (h : ∀ x, x ∈ p → x ≤ 1000) : ∀ T : List Nat, cost p T ≤ 1000 * (T.length : Int)
  | [] => by simp [cost]
  | k :: T => by
    have ih := cost_le h T
    have e : cost p (k :: T) = p.getD k 0 + cost p T := by unfold cost; rw [List.map_cons, List.sum_cons]
    have hk : p.getD k 0 ≤ 1000 := by
      rw [List.getD_eq_getElem?_getD]
      cases q : p[k]? with
      | none => show (0 : Int) ≤ 1000; decide
      | some x => exact h x (List.mem_of_getElem? q)
    rw [e, List.length_cons]
    omega
theorem sum_take : ∀ (l : List Int), (∀ x, x ∈ l → 0 ≤ x) → ∀ j, 0 ≤ (l.take j).sum ∧ (l.take j).sum ≤ l.sum
  | [], _, j => by simp
  | a :: r, h, j => by
    have ha := h a List.mem_cons_self
    have hr := sum_take r (fun x hx => h x (List.mem_cons_of_mem _ hx))
    have h0 := hr 0
    rw [List.take_zero, List.sum_nil] at h0
    cases j with
    | zero => rw [List.take_zero, List.sum_nil, List.sum_cons]; omega
    | succ j =>
      have := hr j
      rw [List.take_succ_cons, List.sum_cons, List.sum_cons]
      omega
theorem le_sum : ∀ {l : List Int} {x : Int}, (∀ x, x ∈ l → 0 ≤ x) → x ∈ l → x ≤ l.sum
  | a :: r, x, h, m => by
    have ha := h a List.mem_cons_self
    have h0 := (sum_take r (fun x hx => h x (List.mem_cons_of_mem _ hx)) 0).2
    rw [List.take_zero, List.sum_nil] at h0
    rw [List.sum_cons]
    rcases List.mem_cons.mp m with q | q
    · omega
    · have := le_sum (fun x hx => h x (List.mem_cons_of_mem _ hx)) q
      omega
theorem off_dT {H : Hp} {T a : Addr} {xs : List (List Key × V)} (t : GxR.TabG H T) (h : H a = some (.dT xs)) : G8.off H T a = some (.dT xs) := by
  obtain ⟨ps, hp, _⟩ := t
  rw [G8.off_ne, h]
  intro e
  rw [e, hp] at h
  cases h
section
variable {P : Program} {w : World} {K : PySem.W.Frag} {mg : Str → Option Value} {base : Heap} {ts : List Addr}
def spBestOf (ts : List Addr) : Sp := fun vs H Q _ => ∃ (a b : Addr) (n r : Int) (A : Arcs) (p : List Int), vs = [.ref a, .ref b, .int r] ∧ WebH H a n A ∧ Web n A ∧ PrH H b p ∧ PrOk A p ∧ 1 ≤ r ∧ r ≤ n ∧ Wins n A r ∧ Tabs ts H ∧
  ∀ t la sa H' W T L, Kp H H' → H' t = some (.tup [.int W, .ref la, .ref sa]) → H' la = some (.tup (List.map kV0 L)) → Opt n A p r W T → L.Perm T → Spr A r L → Q (.ref t) H'
theorem scBestOf : FnScope ["web", "prices", "person", "found", "sets", "paid", "log"] ["web", "prices", "person"] (defScope sBestOf) := ⟨rfl, rfl, rfl, by decide +kernel, rfl, by decide +kernel, by decide +kernel⟩
theorem ok_bestof {f c T : Addr} {fd : FuncData} {k : Nat} (F : Fun K "best_of" "best_of" sBestOf f fd) (hc : fd.code = .ref c) (TB : GxR.TabB base mg c T) (hT : T ∈ ts) (M : Free mg) (CRa : Cal P w K mg base "raised" (k + 2) ["web", "prices", "person"] spRaised) (CIo : Cal P w K mg base "in_order" (k + 2) ["web", "person", "kept"] spInOrder) (CCh : Cal P w K mg base "chosen" (k + 2) ["web", "person", "sets", "paid"] spChosen) : FnOk P w K mg base CX0 (k + 3) f fd ["web", "prices", "person"] (spBestOf ts) := by
  refine okT F hc scBestOf (fun vs H Q E h => ?_) (fun A' outer s H vs Q E hr h => ?_)
  · obtain ⟨_, _, _, _, _, _, rfl, _⟩ := h
    rfl
  · obtain ⟨a, b, n, r, A, p, rfl, hw, Wb, hp, po, hr1, hr2, hwin, tb, q⟩ := h
    refine ⟨_,
      ((pss_cons (ps_set (i := 3) scBestOf.nd rfl (Or.inl rfl) (pe_c CRa hr (by rfl) (pa_cons (pv 0) (pa_cons (pv 1) (pa_cons (pv 2) pa_nil)))))
      (pss_cons (ps_if (pt_cmpR op_isN (pv 3) pe_non (nomark _)) (pss_one (ps_ret pe_non)) pss_nil)
      (pss_cons (ps_asg (pv 3) (pg_tup rfl (pgs_cons (pg_name (i := 4) scBestOf.nd rfl (Or.inr rfl)) (pgs_cons (pg_name (i := 5) scBestOf.nd rfl (Or.inl rfl)) pgs_nil))))
      (pss_cons (ps_set (i := 6) scBestOf.nd rfl (Or.inl rfl) (pe_c CIo hr (by rfl) (pa_cons (pv 0) (pa_cons (pv 2) (pa_cons (pe_c CCh hr (by rfl) (pa_cons (pv 0) (pa_cons (pv 2) (pa_cons (pv 4) (pa_cons (pv 5) pa_nil))))) pa_nil)))))
      (pss_one (ps_ret (pe_tup (pa_cons (G8.pe_sumG hr (by rfl) M.sum_ TB rfl (gens_of rfl rfl (by decide +kernel) rfl rfl (by decide +kernel)) (pv 4)) (pa_cons (pv 6) (pa_cons (pv 4) pa_nil)))))))))))
      , ?_⟩
    refine ⟨_, rfl, _, rfl, _, rfl, a, b, n, r, A, p, rfl, hw, Wb, hp, po, hr1, hr2, hwin, fun t sa pa H1 paid ws W kp1 ht hsa hpa RW => ?_⟩
    obtain ⟨hs, R, WW, rfl⟩ := RW.ex
    refine ⟨_, rfl, rfl, _, rfl, ?_⟩
    rw [decide_eq_false (fun z => nomatch z)]
    refine iteF ⟨_, rfl, t, _, rfl, SqT.of ht, rfl, _, _, rfl, _, _, rfl, rfl, ?_⟩
    have plt : ∀ k, k ∈ paid → k < A.length := fun k hk => (R.full k hk).1
    refine ⟨_, rfl, _, rfl, _, rfl, _, rfl, _, rfl, _, rfl, a, sa, pa, n, r, A, paid, rfl, hw.kp kp1, Wb, hr1, hr2, hpa, R.nd, plt, R.all, fun D H2 Tc kp2 hD C => ?_⟩
    have O := opt_of Wb hr1 hr2 R C
    refine ⟨a, D, n, r, A, Tc, rfl, (hw.kp kp1).kp kp2, Wb, hD, O.nd, O.rng, O.all, fun la H3 L kp3 hla perm spr => ?_⟩
    have kp := kp1.trans (kp2.trans kp3)
    have hsa3 := (kp2.trans kp3).dT hsa
    have nn : ∀ x, x ∈ ws.map Prod.snd → 0 ≤ x := fun x hx => by
      obtain ⟨u, hu, rfl⟩ := List.mem_map.mp hx
      exact WW.nn u hu
    have small : (ws.map Prod.snd).sum ≤ 12000 := by
      rw [WW.sum]
      have h1 := O.least (List.range A.length) (fun k hk => List.mem_range.mp hk) hwin.all
      have h2 := cost_le (fun x hx => (po.rng x hx).2) (List.range A.length)
      have h3 := Wb.few
      rw [List.length_range] at h2
      omega
    have tb3 := (tb.kp kp) T hT
    refine ⟨_, rfl, _, _, fun i => (ws.map Prod.snd).getD i 0, G8.src_dT hsa3, tb3, ?_, fun j hj => ?_, fun H4 t4 => ?_⟩
    · intro B cenv t0 i y z ec py ry
      obtain ⟨ks, v, qa, hi, rfl, hq⟩ := py
      rw [List.getElem?_map] at hi
      obtain ⟨wv, hwv, e⟩ := Option.map_eq_some_iff.mp hi
      cases e
      have ndk : ((kvW ws).map (·.1)).Nodup := by
        rw [List.map_map]
        have : List.map ((fun x : List Key × V => x.1) ∘ fun w : List Int × Int => (kS w.1, V.int w.2)) ws = (ws.map Prod.fst).map kS := by
          rw [List.map_map]
          rfl
        rw [this]
        exact List.pairwise_map.mpr (WW.nd.imp fun h e => h (kS_inj e))
      have hv : valV (kvW ws) (kS wv.1) = some (V.int wv.2) := val_nodup ndk (kS wv.1, V.int wv.2) (List.mem_map_of_mem (List.mem_of_getElem? hwv))
      have ev : (ws.map Prod.snd).getD i 0 = wv.2 := by
        rw [List.getD_eq_getElem?_getD, List.getElem?_map, hwv]
        rfl
      refine ⟨.int wv.2, congrArg V.int ev.symm, ?_⟩
      exact G8.ec_dget (fit_un ec hr) ec.hok (off_dT tb3 hsa3) (off_tup tb3 hq) hv (G8.ec_cap (j := 4) ec rfl rfl rfl rfl) (G8.ec_own ec rfl ry)
    · have h1 := (sum_take _ nn (j + 1))
      rw [preSum_getD]
      have h2 : 0 ≤ (ws.map Prod.snd).getD j 0 ∧ (ws.map Prod.snd).getD j 0 ≤ (ws.map Prod.snd).sum := by
        rw [List.getD_eq_getElem?_getD]
        cases e : (ws.map Prod.snd)[j]? with
        | none =>
          have := (sum_take _ nn 0)
          rw [List.take_zero, List.sum_nil] at this
          exact ⟨Int.le_refl _, this.2⟩
        | some x => exact ⟨nn x (List.mem_of_getElem? e), le_sum nn (List.mem_of_getElem? e)⟩
      show InLong ((ws.map Prod.snd).getD j 0) ∧ InLong _
      unfold InLong
      omega
    · have kp4 := Kp.tbd tb3 t4
      refine ⟨_, rfl, _, rfl, by rw [sizeLine_eq]; show 3 ≤ 16777216; decide, fun t5 nt5 => ?_⟩
      have e : preSum (fun i => (ws.map Prod.snd).getD i 0) (kvW ws).length = wsum hs := by
        rw [preSum_getD, List.take_of_length_le (by rw [List.length_map, List.length_map]; exact Nat.le_refl _), WW.sum]
      rw [e]
      have kp5 := kp4.new (o := .tup [.int (wsum hs), .ref la, .ref sa]) nt5
      exact q t5 la sa _ (wsum hs) Tc L (kp.trans kp5) upd_same (kp5.tup hla) O perm spr
def spCheapWin (ts : List Addr) : Sp := fun vs H Q _ => ∃ (a b : Addr) (n r : Int) (A : Arcs) (p : List Int), vs = [.ref a, .ref b, .int r] ∧ WebH H a n A ∧ Web n A ∧ PrH H b p ∧ PrOk A p ∧ 1 ≤ r ∧ r ≤ n ∧ Wins n A r ∧ Tabs ts H ∧
  ∀ t la H' W T, Kp H H' → H' t = some (.tup [.int W, .ref la]) → Opt n A p r W T → Q (.ref t) H'
theorem scCheapWin : FnScope ["web", "prices", "person", "found"] ["web", "prices", "person"] (defScope sCheapWin) := ⟨rfl, rfl, rfl, by decide +kernel, rfl, by decide +kernel, by decide +kernel⟩
theorem ok_cheapwin {f : Addr} {fd : FuncData} {k : Nat} (F : Fun K "cheap_win" "cheap_win" sCheapWin f fd) (M : Free mg) (CN : Cal P w K mg base "need_prices_cheapest" k ["web", "prices", "person"] (spNeedPc ts)) (CB : Cal P w K mg base "best_of" k ["web", "prices", "person"] (spBestOf ts)) : FnOk P w K mg base CX0 (k + 1) f fd ["web", "prices", "person"] (spCheapWin ts) := by
  refine F.ok scCheapWin (fun vs H Q E h => ?_) (fun cdv A' outer s H vs Q E hr h => ?_)
  · obtain ⟨_, _, _, _, _, _, rfl, _⟩ := h
    rfl
  · obtain ⟨a, b, n, r, A, p, rfl, hw, Wb, hp, po, hr1, hr2, hwin, tb, q⟩ := h
    refine ⟨_,
      ((pss_cons (ps_expr (pe_c CN hr (by rfl) (pa_cons (pv 0) (pa_cons (pv 1) (pa_cons (pv 2) pa_nil)))))
      (pss_cons (ps_set (i := 3) scCheapWin.nd rfl (Or.inl rfl) (pe_c CB hr (by rfl) (pa_cons (pv 0) (pa_cons (pv 1) (pa_cons (pv 2) pa_nil)))))
      (pss_one (ps_ret (pe_ifExp (pt_cmpR op_isN (pv 3) pe_non (nomark _)) pe_non (pe_slice sl_tupA (pv 3) po_none (po_some pe_int))))))))
      , ?_⟩
    refine ⟨_, rfl, _, rfl, _, rfl, a, b, n, r, A, p, rfl, hw, Wb, tb, hp, po, hr1, hr2, fun H1 kp1 => ?_⟩
    refine ⟨_, rfl, _, rfl, _, rfl, a, b, n, r, A, p, rfl, hw.kp kp1, Wb, kp1.tup hp, po, hr1, hr2, hwin, tb.kp kp1, fun t la sa H2 W T L kp2 ht hla O perm spr => ?_⟩
    refine ⟨_, rfl, rfl, _, rfl, ?_⟩
    rw [decide_eq_false (fun z => nomatch z)]
    refine iteF ⟨_, rfl, _, rfl, ?_⟩
    refine rd_slA ht fun t2 H3 kp3 ht2 => q t2 la H3 W T (kp1.trans (kp2.trans kp3)) ?_ O
    rw [ht2]
    rfl
structure BestX (n : Int) (A : Arcs) (p : List Int) (W r : Int) (L : List Nat) : Prop where
  best : Best n A p W r L
  all : ∀ s, s ∈ wins n A → ∃ W T, Opt n A p s W T
structure BI (n : Int) (A : Arcs) (p : List Int) (l : List Int) (W r : Int) (L : List Nat) : Prop where
  mem : r ∈ l
  opt : ∃ T, Opt n A p r W T ∧ L.Perm T
  spr : Spr A r L
  least : ∀ q, q ∈ l → ∀ W' T', Opt n A p q W' T' → W ≤ W' ∧ (q < r → W < W')
def BG (n : Int) (A : Arcs) (p : List Int) (l : List Int) (v : V) (H' : Hp) : Prop := (v = .non ∧ l = []) ∨ ∃ t la W r L, v = .ref t ∧ H' t = some (.tup [.int W, .int r, .ref la]) ∧ H' la = some (.tup (List.map kV0 L)) ∧ BI n A p l W r L
theorem BG.kp {n : Int} {A : Arcs} {p : List Int} {l : List Int} {v : V} {H H' : Hp} (G : BG n A p l v H) (k : Kp H H') : BG n A p l v H' := by
  rcases G with h | ⟨t, la, W, r, L, h1, h2, h3, h4⟩
  · exact .inl h
  · exact .inr ⟨t, la, W, r, L, h1, k.tup h2, k.tup h3, h4⟩
theorem BI.new {n : Int} {A : Arcs} {p : List Int} {l : List Int} {W r : Int} {L T : List Nat} (o : Opt n A p r W T) (hp : L.Perm T) (hs : Spr A r L) (h : l = [] ∨ ∃ W0 r0 L0, BI n A p l W0 r0 L0 ∧ W < W0) : BI n A p (l ++ [r]) W r L where
  mem := List.mem_append_right _ (List.mem_singleton.mpr rfl)
  opt := ⟨T, o, hp⟩
  spr := hs
  least := fun q hq W' T' o' => by
    rcases List.mem_append.mp hq with z | z
    · rcases h with e | ⟨W0, r0, L0, B, lt⟩
      · rw [e] at z; cases z
      · have := (B.least q z W' T' o').1
        exact ⟨by omega, fun _ => by omega⟩
    · rw [List.mem_singleton.mp z] at o' ⊢
      have := o.uniq o'
      exact ⟨by omega, fun z => absurd z (Int.lt_irrefl _)⟩
theorem BI.keep {n : Int} {A : Arcs} {p : List Int} {l : List Int} {W r W0 r0 : Int} {L0 T : List Nat} (B : BI n A p l W0 r0 L0) (o : Opt n A p r W T) (hup : ∀ x, x ∈ l → x < r) (hl : ¬ W < W0) : BI n A p (l ++ [r]) W0 r0 L0 where
  mem := List.mem_append_left _ B.mem
  opt := B.opt
  spr := B.spr
  least := fun q hq W' T' o' => by
    rcases List.mem_append.mp hq with z | z
    · exact B.least q z W' T' o'
    · rw [List.mem_singleton.mp z] at o' ⊢
      have := o.uniq o'
      have := hup r0 B.mem
      exact ⟨by omega, fun z => by omega⟩
theorem up_take {l : List Int} (h : l.Pairwise fun a b => a < b) {i : Nat} {x : Int} (hx : l[i]? = some x) : ∀ y, y ∈ l.take i → y < x := fun y hy => by
  obtain ⟨j, hj, e⟩ := List.getElem_of_mem hy
  rw [List.length_take] at hj
  rw [List.getElem_take] at e
  obtain ⟨hi, ex⟩ := List.getElem?_eq_some_iff.mp hx
  rw [← e, ← ex]
  exact List.pairwise_iff_getElem.mp h j i (by omega) hi (by omega)
def spAgree (ts : List Addr) : Sp := fun vs H Q _ => ∃ (a b : Addr) (n : Int) (A : Arcs) (p : List Int), vs = [.ref a, .ref b] ∧ WebH H a n A ∧ Web n A ∧ PrH H b p ∧ PrOk A p ∧ Tabs ts H ∧
  (wins n A = [] → ∀ H', Kp H H' → Q .non H') ∧ ∀ t la H' W r L, Kp H H' → H' t = some (.tup [.int W, .int r, .ref la]) → H' la = some (.tup (List.map kV0 L)) → BestX n A p W r L → Q (.ref t) H'
theorem scAgree : FnScope ["web", "prices", "best", "person", "price", "log", "sets"] ["web", "prices"] (defScope sAgree) := ⟨rfl, rfl, rfl, by decide +kernel, rfl, by decide +kernel, by decide +kernel⟩
def AW (H1 : Hp) (n : Int) (A : Arcs) (p : List Int) (a b : Addr) (i : Nat) (σ : L2.St) (H3 : Hp) : Prop := ∃ g y3 y4 y5 y6, σ = [some (.ref a), some (.ref b), some g, y3, y4, y5, y6] ∧ Kp H1 H3 ∧ BG n A p ((wins n A).take i) g H3 ∧ ∀ s, s ∈ (wins n A).take i → ∃ W T, Opt n A p s W T
theorem ok_agree {f : Addr} {fd : FuncData} {k : Nat} (F : Fun K "agreement_of" "agreement_of" sAgree f fd) (M : Free mg) (CW : Cal P w K mg base "winners_of" k ["web"] spWinnersOf) (CB : Cal P w K mg base "best_of" k ["web", "prices", "person"] (spBestOf ts)) : FnOk P w K mg base CX0 (k + 1) f fd ["web", "prices"] (spAgree ts) := by
  refine F.ok scAgree (fun vs H Q E h => ?_) (fun cdv A' outer s H vs Q E hr h => ?_)
  · obtain ⟨_, _, _, _, _, rfl, _⟩ := h
    rfl
  · obtain ⟨a, b, n, A, p, rfl, hw, Wb, hp, po, tb, q0, q⟩ := h
    refine ⟨_,
      ((pss_cons (ps_set (i := 2) scAgree.nd rfl (Or.inl rfl) pe_non)
      (pss_cons (ps_for PassesOwn.never rfl (pi_list (pe_c CW hr (by rfl) (pa_cons (pv 0) pa_nil))) (pg_name (i := 3) scAgree.nd rfl (Or.inl rfl)) (pss_cons (ps_asg (pe_c CB hr (by rfl) (pa_cons (pv 0) (pa_cons (pv 1) (pa_cons (pv 3) pa_nil)))) (pg_tup rfl (pgs_cons (pg_name (i := 4) scAgree.nd rfl (Or.inl rfl)) (pgs_cons (pg_name (i := 5) scAgree.nd rfl (Or.inl rfl)) (pgs_cons (pg_name (i := 6) scAgree.nd rfl (Or.inl rfl)) pgs_nil)))))
      (pss_one (ps_if (PW.pt (pw_or (pt_cmpR op_isN (pv 2) pe_non (nomark _)) (pw_or1 (pt_cmpR op_lt (pv 4) (pe_ix ix_tup (pv 2) pe_int (fun _ _ => rfl)) (nomark _))))) (pss_one (ps_set (i := 2) scAgree.nd rfl (Or.inl rfl) (pe_tup (pa_cons (pv 4) (pa_cons (pv 3) (pa_cons (pv 5) pa_nil)))))) pss_nil))))
      (pss_one (ps_ret (pv 2))))))
      , ?_⟩
    refine ⟨_, rfl, a, n, A, rfl, hw, Wb, fun wa H1 kp1 hwa => ⟨wa, rfl, ⟨_, SqL.of hwa⟩, ?_⟩⟩
    refine for_it walk_list (AW H1 n A p a b) ⟨.non, _, _, _, _, rfl, Kp.refl _, .inl ⟨rfl, List.take_zero⟩, fun s h => absurd h (by rw [List.take_zero]; exact List.not_mem_nil)⟩ (fun i σ H' _ ⟨_, _, _, _, _, _, kp, _⟩ => SqL.of (kp.lst hwa)) ?_ ?_
    · rintro i x σ H2 H3 hi ⟨g, y3, y4, y5, y6, rfl, kp2, G, hall⟩ ⟨rfl, hx⟩
      rw [List.getElem?_map] at hx
      obtain ⟨r, hr0, rfl⟩ := Option.map_eq_some_iff.mp hx
      obtain ⟨hrn, hwr⟩ := mem_wins.mp (List.mem_of_getElem? hr0)
      have kp3 := kp1.trans kp2
      have up := up_take (wins_up n A) hr0
      have tk : (wins n A).take (i + 1) = (wins n A).take i ++ [r] := by
        rw [List.take_add_one, hr0]
        rfl
      refine ⟨_, rfl, _, rfl, _, rfl, a, b, n, r, A, p, rfl, hw.kp kp3, Wb, kp3.tup hp, po, hrn.1, hrn.2, hwr, tb.kp kp3, fun t la sa H4 W T L kp4 ht hla O perm spr => ?_⟩
      have kp5 := kp2.trans kp4
      have G4 := G.kp kp4
      have hall2 : ∀ s, s ∈ (wins n A).take (i + 1) → ∃ W T, Opt n A p s W T := fun s hs => by
        rw [tk] at hs
        rcases List.mem_append.mp hs with z | z
        · exact hall s z
        · rw [List.mem_singleton.mp z]
          exact ⟨W, T, O⟩
      have put : ∀ t5, H4 t5 = none → ((wins n A).take i = [] ∨ ∃ W0 r0 L0, BI n A p ((wins n A).take i) W0 r0 L0 ∧ W < W0) → BG n A p ((wins n A).take (i + 1)) (.ref t5) (upd H4 t5 (.tup [.int W, .int r, .ref la])) := fun t5 n5 h => by
        rw [tk]
        exact .inr ⟨t5, la, W, r, L, rfl, upd_same, (Kp.upd n5).tup hla, BI.new O perm spr h⟩
      refine ⟨t, _, rfl, SqT.of ht, rfl, _, _, rfl, _, _, rfl, _, _, rfl, rfl, ?_⟩
      refine ⟨_, rfl, rfl, _, rfl, ?_⟩
      rcases G4 with ⟨rfl, h2⟩ | ⟨t0, la0, W0, r0, L0, rfl, h2, h3, h4⟩
      · rw [decide_eq_true rfl]
        refine iteT (iteT ⟨_, rfl, _, rfl, _, rfl, by rw [sizeLine_eq]; show 3 ≤ 16777216; decide, fun t5 nt5 => ?_⟩)
        exact ⟨_, _, _, _, _, rfl, kp5.new nt5, put t5 nt5 (.inl h2), hall2⟩
      · rw [decide_eq_false (fun z => nomatch z)]
        refine iteF ⟨_, rfl, _, rfl, t0, _, _, _, rfl, rfl, SqT.of h2, atI_nat (j := 0) rfl, _, _, rfl, rfl, _, rfl, ?_⟩
        by_cases lt : W < W0
        · rw [decide_eq_true lt]
          refine iteT ⟨_, rfl, _, rfl, _, rfl, by rw [sizeLine_eq]; show 3 ≤ 16777216; decide, fun t5 nt5 => ?_⟩
          exact ⟨_, _, _, _, _, rfl, kp5.new nt5, put t5 nt5 (.inr ⟨W0, r0, L0, h4, lt⟩), hall2⟩
        · rw [decide_eq_false lt]
          refine iteF ⟨_, _, _, _, _, rfl, kp5, ?_, hall2⟩
          rw [tk]
          exact .inr ⟨t0, la0, W0, r0, L0, rfl, h2, h3, h4.keep O up lt⟩
    · rintro σ H2 ⟨g, y3, y4, y5, y6, rfl, kp2, G, hall⟩
      rw [List.length_map, List.take_length] at G hall
      refine ⟨_, rfl, ?_⟩
      rcases G with ⟨rfl, h2⟩ | ⟨t0, la0, W0, r0, L0, rfl, h2, h3, h4⟩
      · exact q0 h2 H2 (kp1.trans kp2)
      · exact q t0 la0 H2 W0 r0 L0 (kp1.trans kp2) h2 h3 ⟨⟨h4.mem, h4.opt, h4.spr, h4.least⟩, hall⟩
theorem scCheapAg : FnScope ["web", "prices"] ["web", "prices"] (defScope sCheapAg) := ⟨rfl, rfl, rfl, by decide +kernel, rfl, by decide +kernel, by decide +kernel⟩
theorem ok_cheapag {f : Addr} {fd : FuncData} {k : Nat} (F : Fun K "cheap_agreement" "cheap_agreement" sCheapAg f fd) (M : Free mg) (CN : Cal P w K mg base "need_prices_groups" k ["web", "prices"] (spNeedPg ts)) (CA : Cal P w K mg base "agreement_of" k ["web", "prices"] (spAgree ts)) : FnOk P w K mg base CX0 (k + 1) f fd ["web", "prices"] (spAgree ts) := by
  refine F.ok scCheapAg (fun vs H Q E h => ?_) (fun cdv A' outer s H vs Q E hr h => ?_)
  · obtain ⟨_, _, _, _, _, rfl, _⟩ := h
    rfl
  · obtain ⟨a, b, n, A, p, rfl, hw, Wb, hp, po, tb, q0, q⟩ := h
    refine ⟨_,
      ((pss_cons (ps_expr (pe_c CN hr (by rfl) (pa_cons (pv 0) (pa_cons (pv 1) pa_nil))))
      (pss_one (ps_ret (pe_c CA hr (by rfl) (pa_cons (pv 0) (pa_cons (pv 1) pa_nil)))))))
      , ?_⟩
    refine ⟨_, rfl, _, rfl, a, b, n, A, p, rfl, hw, Wb, tb, hp, po, fun H1 kp1 => ?_⟩
    exact ⟨_, rfl, _, rfl, a, b, n, A, p, rfl, hw.kp kp1, Wb, kp1.tup hp, po, tb.kp kp1, fun h H2 kp2 => q0 h H2 (kp1.trans kp2), fun t la H2 W r L kp2 => q t la H2 W r L (kp1.trans kp2)⟩
end
end B84
namespace B84
open PySem PySem.Spec PyProof.Rows L2 K84
theorem perm_sum {l l' : List Int} (h : l.Perm l') : l.sum = l'.sum := by
  induction h with
  | nil => rfl
  | cons a _ ih => rw [List.sum_cons, List.sum_cons, ih]
  | swap a b l => rw [List.sum_cons, List.sum_cons, List.sum_cons, List.sum_cons]; omega
  | trans _ _ h1 h2 => exact h1.trans h2
section
variable {P : Program} {w : World} {K : PySem.W.Frag} {mg : Str → Option Value} {base : Heap} {ts : List Addr}
def spShows (ts : List Addr) : Sp := fun vs H Q _ => ∃ (a b : Addr) (v : V) (n : Int) (A : Arcs) (p : List Int), vs = [.ref a, .ref b, v] ∧ WebH H a n A ∧ Web n A ∧ PrH H b p ∧ PrOk A p ∧ Tabs ts H ∧
  ((∃ t la W r L, v = .ref t ∧ H t = some (.tup [.int W, .int r, .ref la]) ∧ H la = some (.tup (List.map kV0 L)) ∧ Best n A p W r L ∧ ∀ H', Kp H H' → Q (.bl true) H') ∨ (v = .non ∧ wins n A ≠ [] ∧ ∀ H', Kp H H' → Q (.bl false) H'))
theorem scShows : FnScope ["web", "prices", "value", "best"] ["web", "prices", "value"] (defScope sShows) := ⟨rfl, rfl, rfl, by decide +kernel, rfl, by decide +kernel, by decide +kernel⟩
theorem ok_shows {f c T : Addr} {fd : FuncData} {k : Nat} (F : Fun K "shows_agreement" "shows_agreement" sShows f fd) (hc : fd.code = .ref c) (TB : GxR.TabB base mg c T) (hT : T ∈ ts) (M : Free mg) (CN : Cal P w K mg base "need_prices_groups" (k + 2) ["web", "prices"] (spNeedPg ts)) (CA : Cal P w K mg base "agreement_of" (k + 2) ["web", "prices"] (spAgree ts))
    (CL : Cal P w K mg base "is_log" (k + 2) ["web", "value"] (spIsLog ts)) (C1 : Cal P w K mg base "is_in" (k + 2) ["value", "least", "most"] spIsIn) (CBe : Cal P w K mg base "behind" (k + 2) ["web", "some", "log"] spBehind) (CP : Cal P w K mg base "people" (k + 2) ["web"] spPeople) : FnOk P w K mg base CX0 (k + 3) f fd ["web", "prices", "value"] (spShows ts) := by
  refine okT F hc scShows (fun vs H Q E h => ?_) (fun A' outer s H vs Q E hr h => ?_)
  · obtain ⟨_, _, _, _, _, _, rfl, _⟩ := h
    rfl
  · obtain ⟨a, b, v, n, A, p, rfl, hw, Wb, hp, po, tb, hv⟩ := h
    refine ⟨_,
      ((pss_cons (ps_expr (pe_c CN hr (by rfl) (pa_cons (pv 0) (pa_cons (pv 1) pa_nil))))
      (pss_cons (ps_set (i := 3) scShows.nd rfl (Or.inr rfl) (pe_c CA hr (by rfl) (pa_cons (pv 0) (pa_cons (pv 1) pa_nil))))
      (pss_cons (ps_if (PW.pt (pw_or (pt_cmpR op_isN (pv 3) pe_non (nomark _)) (pw_or1 (pt_cmpR op_isN (pv 2) pe_non (nomark _))))) (pss_one (ps_ret (pe_and (pe_cmpR op_isN (pv 3) pe_non (nomark _)) (pe_one (pe_cmpR op_isN (pv 2) pe_non (nomark _)))))) pss_nil)
      (pss_cons (ps_if (PW.pt (pw_or (pt_not (pt_val (pe_isi M (by rfl) (pv 2) (by rfl) M.tuple b_tuple))) (pw_or (pt_cmpR op_ne (pe_callB call_len_seq (by rfl) M.len PySem.boot_len (pa_cons (pv 2) pa_nil)) pe_int (nomark _)) (pw_or1 (pt_not (pt_val (pe_c CL hr (by rfl) (pa_cons (pv 0) (pa_cons (pe_ix ix_tup (pv 2) pe_int (fun _ _ => rfl)) pa_nil))))))))) (pss_one (ps_ret pe_bl)) pss_nil)
      (pss_cons (ps_if (PW.pt (pw_or (pt_not (pt_val (pe_c C1 hr (by rfl) (pa_cons (pe_ix ix_tup (pv 2) pe_int (fun _ _ => rfl)) (pa_cons (pe_ix ix_tup (pv 3) pe_int (fun _ _ => rfl)) (pa_cons (pe_ix ix_tup (pv 3) pe_int (fun _ _ => rfl)) pa_nil)))))) (pw_or1 (pt_not (pt_val (pe_c C1 hr (by rfl) (pa_cons (pe_ix ix_tup (pv 2) pe_int (fun _ _ => rfl)) (pa_cons (pe_ix ix_tup (pv 3) pe_int (fun _ _ => rfl)) (pa_cons (pe_ix ix_tup (pv 3) pe_int (fun _ _ => rfl)) pa_nil))))))))) (pss_one (ps_ret pe_bl)) pss_nil)
      (pss_cons (ps_if (pt_cmpR op_ne (G8.pe_sumG hr (by rfl) M.sum_ TB rfl (gens_of rfl rfl (by decide +kernel) rfl rfl (by decide +kernel)) (pe_ix ix_tup (pv 2) pe_int (fun _ _ => rfl))) (pe_ix ix_tup (pv 3) pe_int (fun _ _ => rfl)) (nomark _)) (pss_one (ps_ret pe_bl)) pss_nil)
      (pss_one (ps_ret (G8.pe_allG hr (by rfl) M.all_ TB rfl (gens_of rfl rfl (by decide +kernel) rfl rfl (by decide +kernel)) (pe_c CBe hr (by rfl) (pa_cons (pv 0) (pa_cons (pe_c CP hr (by rfl) (pa_cons (pv 0) pa_nil)) (pa_cons (pe_ix ix_tup (pv 2) pe_int (fun _ _ => rfl)) pa_nil))))))))))))))
      , ?_⟩
    refine ⟨_, rfl, _, rfl, a, b, n, A, p, rfl, hw, Wb, tb, hp, po, fun H1 kp1 => ?_⟩
    refine ⟨_, rfl, _, rfl, a, b, n, A, p, rfl, hw.kp kp1, Wb, kp1.tup hp, po, tb.kp kp1, fun h H2 kp2 => ?_, fun t0 la0 H2 W0 r0 L0 kp2 ht0 hla0 B0 => ?_⟩
    · exfalso
      rcases hv with ⟨t, la, W, r, L, _, _, _, B, _⟩ | ⟨_, ne, _⟩
      · have := B.win
        rw [h] at this
        cases this
      · exact ne h
    have kp3 := kp1.trans kp2
    rcases hv with ⟨t, la, W, r, L, rfl, ht, hla, B, q⟩ | ⟨rfl, ne, q⟩
    · obtain ⟨rfl, rfl⟩ := B.uniq B0.best
      obtain ⟨Tc, O, perm⟩ := B.opt
      obtain ⟨⟨hr1, hr2⟩, hwr⟩ := mem_wins.mp B.win
      have Llt : ∀ k, k ∈ L → k < A.length := fun k hk => O.rng k (perm.mem_iff.mp hk)
      have Lnd : L.Nodup := perm.symm.nodup O.nd
      have L12 : L.length ≤ 12 := by
        have h1 := Lnd.length_le_of_subset (l₂ := List.range A.length) fun x hx => List.mem_range.mpr (Llt x hx)
        rw [List.length_range] at h1
        have := Wb.few
        omega
      have ht3 := kp3.tup ht
      have hla3 := kp3.tup hla
      refine ⟨_, rfl, rfl, _, rfl, ?_⟩
      rw [decide_eq_false (fun z => nomatch z)]
      refine iteF ⟨_, rfl, rfl, _, rfl, ?_⟩
      rw [decide_eq_false (fun z => nomatch z)]
      refine iteF ?_
      refine ⟨_, rfl, _, _, _, _, true, rfl, .ty _, .base (.tup ht3), kit_ty (by decide +kernel), _, rfl, iteF ?_⟩
      refine ⟨_, rfl, t, _, rfl, .inr (SqT.of ht3), rfl, _, rfl, iteF ?_⟩
      refine ⟨_, rfl, _, rfl, t, _, _, _, rfl, rfl, SqT.of ht3, atI_nat (j := 2) rfl, a, la, n, A, L, rfl, hw.kp kp3, hla3, by omega, Llt, tb.kp kp3, fun H4 kp4 => ⟨_, rfl, iteF ?_⟩⟩
      have kp5 := kp3.trans kp4
      have ht5 := kp5.tup ht
      have hla5 := kp5.tup hla
      have h05 := kp4.tup ht0
      refine ⟨_, rfl, t, _, _, _, rfl, rfl, SqT.of ht5, atI_nat (j := 0) rfl, _, rfl, t0, _, _, _, rfl, rfl, SqT.of h05, atI_nat (j := 0) rfl, _, rfl, t0, _, _, _, rfl, rfl, SqT.of h05, atI_nat (j := 0) rfl, W, W, W, rfl, ?_⟩
      rw [decide_eq_true (Int.le_refl W)]
      refine ⟨_, rfl, iteF ?_⟩
      refine ⟨_, rfl, t, _, _, _, rfl, rfl, SqT.of ht5, atI_nat (j := 1) rfl, _, rfl, t0, _, _, _, rfl, rfl, SqT.of h05, atI_nat (j := 1) rfl, _, rfl, t0, _, _, _, rfl, rfl, SqT.of h05, atI_nat (j := 1) rfl, r, r, r, rfl, ?_⟩
      rw [decide_eq_true (Int.le_refl r)]
      refine ⟨_, rfl, iteF ?_⟩
      have tb5 := (tb.kp kp5) T hT
      have vlen : (L.map fun k => p.getD k 0).length = L.length := List.length_map _
      have vrng : ∀ j, j < L.length → 0 ≤ (L.map fun k => p.getD k 0).getD j 0 ∧ (L.map fun k => p.getD k 0).getD j 0 ≤ 1000 := fun j hj => by
        have e : (L.map fun k => p.getD k 0).getD j 0 = p.getD L[j] 0 := by
          rw [List.getD_eq_getElem?_getD, List.getElem?_map, List.getElem?_eq_getElem hj]
          rfl
        rw [e]
        have : p[L[j]]? = some (p.getD L[j] 0) := K84.some_getD (by rw [po.len]; exact Llt _ (List.getElem_mem hj))
        exact po.rng _ (List.mem_of_getElem? this)
      have vnn : ∀ x, x ∈ (L.map fun k => p.getD k 0) → 0 ≤ x := fun x hx => by
        obtain ⟨j, hj, e⟩ := List.getElem_of_mem hx
        rw [vlen] at hj
        have := (vrng j hj).1
        rw [List.getD_eq_getElem?_getD, List.getElem?_eq_getElem (by rw [vlen]; exact hj), e] at this
        exact this
      have vsum : (L.map fun k => p.getD k 0).sum = W := by
        rw [← O.price]
        exact perm_sum (perm.map _)
      have vsmall : W ≤ 1000 * (L.length : Int) := by
        rw [← vsum]
        exact cost_le (fun x hx => (po.rng x hx).2) L
      refine ⟨_, rfl, t, _, _, _, rfl, rfl, SqT.of ht5, atI_nat (j := 2) rfl, _, _, fun i => (L.map fun k => p.getD k 0).getD i 0, G8.src_tup hla5, tb5, ?_, fun j hj => ?_, fun H6 t6 => ?_⟩
      · intro B' cenv tt i y z ec py ry
        replace py : (L.map kV0)[i]? = some y := py
        rw [List.getElem?_map] at py
        obtain ⟨m, hm, rfl⟩ := Option.map_eq_some_iff.mp py
        have hpm : p[m]? = some (p.getD m 0) := K84.some_getD (by rw [po.len]; exact Llt m (List.mem_of_getElem? hm))
        have ev : (L.map fun k => p.getD k 0).getD i 0 = p.getD m 0 := by
          rw [List.getD_eq_getElem?_getD, List.getElem?_map, hm]
          rfl
        exact ⟨.int (p.getD m 0), congrArg V.int ev.symm, G8.ec_item ec.hok (off_tup tb5 (kp5.tup hp)) (G8.ec_cap (j := 1) ec rfl rfl rfl rfl) (G8.ec_own ec rfl ry) (atI_nat (j := m) (by rw [List.getElem?_map, hpm]; rfl))⟩
      · rw [List.length_map] at hj
        have h1 := vrng j hj
        have h2 := sum_take _ vnn (j + 1)
        rw [vsum] at h2
        rw [preSum_getD]
        show InLong ((L.map fun k => p.getD k 0).getD j 0) ∧ InLong _
        unfold InLong
        omega
      have kp6 := kp5.trans (Kp.tbd tb5 t6)
      have kp46 := kp4.trans (Kp.tbd tb5 t6)
      have e : preSum (fun i => (L.map fun k => p.getD k 0).getD i 0) (List.map kV0 L).length = W := by
        rw [preSum_getD, List.take_of_length_le (by rw [List.length_map, List.length_map]; exact Nat.le_refl _), vsum]
      rw [e]
      refine ⟨_, rfl, t0, _, _, _, rfl, rfl, SqT.of (kp46.tup ht0), atI_nat (j := 0) rfl, rfl, _, rfl, ?_⟩
      rw [decide_eq_true rfl]
      refine iteF ?_
      refine ⟨_, rfl, _, rfl, a, n, A, rfl, hw.kp kp6, Wb.lo, Wb.hi, fun pp H7 kp7 hpp => ?_⟩
      have kp8 := kp6.trans kp7
      refine ⟨_, rfl, t, _, _, _, rfl, rfl, SqT.of (kp8.tup ht), atI_nat (j := 2) rfl, a, pp, la, n, A, pplI n, L, rfl, hw.kp kp8, Wb, hpp, len_ppl n, kp8.tup hla, Llt, fun bb H9 kp9 hbb => ?_⟩
      have kp10 := kp8.trans kp9
      have tb10 := (tb.kp kp10) T hT
      refine ⟨_, _, G8.src_tup hbb, tb10, ?_, fun H11 t11 => q H11 (kp10.trans (Kp.tbd tb10 t11))⟩
      intro B' cenv tt i y z ec py ry
      replace py : ((beh A (pplI n) L).map V.int)[i]? = some y := py
      rw [List.getElem?_map] at py
      obtain ⟨m, hm, rfl⟩ := Option.map_eq_some_iff.mp py
      have em : m = r := beh_all Wb hr1 hr2 O.all perm B.spr m (List.mem_of_getElem? hm)
      refine ⟨.bl true, rfl, ?_⟩
      have et : V.bl true = V.bl (decide (m = r)) := by rw [decide_eq_true em]
      rw [et]
      exact Q8.q_eq (G8.ec_own ec rfl ry) (G8.ec_item ec.hok (off_tup tb10 ((kp46.trans (kp7.trans kp9)).tup ht0)) (G8.ec_cap (j := 3) ec rfl rfl rfl rfl) Q8.q_int (atI_nat (j := 1) rfl))
    · refine ⟨_, rfl, rfl, _, rfl, ?_⟩
      rw [decide_eq_false (fun z => nomatch z)]
      refine iteF ⟨_, rfl, rfl, _, rfl, ?_⟩
      rw [decide_eq_true rfl]
      refine iteT ⟨_, rfl, rfl, _, rfl, ?_⟩
      rw [decide_eq_false (show ¬ V.ref t0 = V.non from fun z => nomatch z)]
      exact iteF (q H2 kp3)
end
end B84
namespace B84
open PySem PySem.Spec PyProof.Rows L2 K84
/-! the law's own defs -/
structure RowOk (c1 c2 : Int) : Prop where
  a : 0 ≤ c1
  b : 0 ≤ c2
  c : c2 < 2147483647
abbrev rowV (sc : Addr) (c1 c2 c3 : Int) : HO := .lst [.ref sc, .int c1, .int c2, .int c3]
theorem mod_rng (x : Int) {m : Int} (h : 0 < m) : 0 ≤ x % m ∧ x % m < m := ⟨Int.emod_nonneg _ (by omega), Int.emod_lt_of_pos _ h⟩
section
variable {P : Program} {w : World} {K : PySem.W.Frag} {mg : Str → Option Value} {base : Heap} {ts : List Addr}
def spLtaken (K : PySem.W.Frag) : Sp := fun vs H Q _ => ∃ (ra sc : Addr) (H0 : Hp) (ns : List Int) (c1 c2 c3 many : Int), vs = [.ref ra, .int many] ∧ SqL K H0 sc (ns.map V.int) ∧ ns.length ≤ 63 ∧ Kp H0 H ∧ H0 ra = none ∧ H ra = some (rowV sc c1 c2 c3) ∧ RowOk c1 c2 ∧ 1 ≤ many ∧ many < 1000 ∧
  ∀ x c1 c2 c3, 0 ≤ x → x < many → RowOk c1 c2 → Q (.int x) (upd H ra (rowV sc c1 c2 c3))
theorem scLtaken : FnScope ["_law_row", "_law_many", "_law_found", "_law_cell"] ["_law_row", "_law_many"] (defScope sLtaken) := ⟨rfl, rfl, rfl, by decide +kernel, rfl, by decide +kernel, by decide +kernel⟩
theorem ok_ltaken {f : Addr} {fd : FuncData} {k : Nat} (F : Fun K "_law_taken" "_law_taken" sLtaken f fd) (M : Free mg) : FnOk P w K mg base CX0 (k + 1) f fd ["_law_row", "_law_many"] (spLtaken K) := by
  refine F.ok scLtaken (fun vs H Q E h => ?_) (fun cdv A' outer s H vs Q E hr h => ?_)
  · obtain ⟨_, _, _, _, _, _, _, _, rfl, _⟩ := h
    rfl
  · obtain ⟨ra, sc, H0, ns, c1, c2, c3, many, rfl, hs, hns, kp, nra, hra, R, hm1, hm2, q⟩ := h
    have hm : 0 < many := by omega
    have cm : CDiv 0 many := ⟨hm, by omega⟩
    refine ⟨_,
      ((pss_cons (ps_if (pt_cmpR op_gt (pe_ix ix_list (pv 0) pe_int (fun _ _ => rfl)) pe_int (nomark _)) (pss_cons (ps_set (i := 2) scLtaken.nd rfl (Or.inl rfl) (pe_op op_mod (pe_callTy call_int1 (by rfl) M.int_ b_int (pa_cons (pe_ix ix_list (pv 0) pe_int (fun _ _ => rfl)) pa_nil)) (pv 1)))
      (pss_cons (ps_asg (pe_op op_fdiv (pe_ix ix_list (pv 0) pe_int (fun _ _ => rfl)) (pv 1)) (pg_sub (pv 0) pe_int set_list))
      (pss_one (ps_ret (pv 2))))) pss_nil)
      (pss_cons (ps_asg (pe_op op_add (pe_ix ix_list (pv 0) pe_int (fun _ _ => rfl)) pe_int) (pg_sub (pv 0) pe_int set_list))
      (pss_cons (ps_if (pt_cmpR op_gt (pe_ix ix_list (pv 0) pe_int (fun _ _ => rfl)) (pe_callB call_len_seq (by rfl) M.len PySem.boot_len (pa_cons (pe_ix ix_list (pv 0) pe_int (fun _ _ => rfl)) pa_nil)) (nomark _)) (pss_cons (ps_asg (pe_op op_mod (pe_callTy call_int1 (by rfl) M.int_ b_int (pa_cons (pe_op op_add (pe_op op_mul (pe_ix ix_list (pv 0) pe_int (fun _ _ => rfl)) pe_int) pe_int) pa_nil)) pe_int) (pg_sub (pv 0) pe_int set_list))
      (pss_one (ps_ret (pe_op op_mod (pe_callTy call_int1 (by rfl) M.int_ b_int (pa_cons (pe_op op_fdiv (pe_ix ix_list (pv 0) pe_int (fun _ _ => rfl)) pe_int) pa_nil)) (pv 1))))) pss_nil)
      (pss_cons (ps_set (i := 3) scLtaken.nd rfl (Or.inl rfl) (pe_ix ix_list (pe_ix ix_list (pv 0) pe_int (fun _ _ => rfl)) (pe_op op_sub (pe_ix ix_list (pv 0) pe_int (fun _ _ => rfl)) pe_int) (fun _ _ => rfl)))
      (pss_cons (ps_asg (pe_op op_mod (pe_callTy call_int1 (by rfl) M.int_ b_int (pa_cons (pe_op op_add (pe_op op_add (pe_op op_mul (pe_ix ix_list (pv 0) pe_int (fun _ _ => rfl)) pe_int) (pv 3)) pe_int) pa_nil)) pe_int) (pg_sub (pv 0) pe_int set_list))
      (pss_cons (ps_if (pt_cmpR op_ge (pv 3) (pe_op op_pow pe_int pe_int) (nomark _)) (pss_one (ps_asg (pe_op op_fdiv (pv 3) (pv 1)) (pg_sub (pv 0) pe_int set_list))) pss_nil)
      (pss_one (ps_ret (pe_op op_mod (pe_callTy call_int1 (by rfl) M.int_ b_int (pa_cons (pv 3) pa_nil)) (pv 1)))))))))))
      , ?_⟩
    have rd : ∀ {H' : Hp} {xs : List V}, H' ra = some (.lst xs) → SqL K H' ra xs := fun h => SqL.of h
    refine ⟨_, rfl, ra, _, _, _, rfl, rfl, rd hra, atI_nat (j := 3) rfl, _, _, rfl, rfl, _, rfl, ?_⟩
    by_cases h3 : 0 < c3
    · rw [decide_eq_true h3]
      have hx := mod_rng c3 hm
      refine iteT ⟨_, rfl, ra, _, _, _, rfl, rfl, rd hra, atI_nat (j := 3) rfl, .inl ⟨_, rfl, _, rfl, c3, many, rfl, rfl, hm, ?_⟩⟩
      refine ⟨_, rfl, ra, _, _, _, rfl, rfl, rd hra, atI_nat (j := 3) rfl, _, rfl, c3, many, rfl, rfl, ⟨hm, by omega⟩, ?_⟩
      refine ⟨_, rfl, ra, _, _, 3, rfl, rfl, hra, ixN_n (j := 3) (by show 3 < 4; decide), ?_⟩
      exact ⟨_, rfl, q _ c1 c2 _ hx.1 hx.2 R⟩
    · rw [decide_eq_false h3]
      refine iteF ?_
      have kpM : ∀ {o : HO}, Kp H0 (upd H ra o) := kp.mut nra
      refine ⟨_, rfl, ra, _, _, _, rfl, rfl, rd hra, atI_nat (j := 1) rfl, _, _, rfl, rfl, _, rfl, ra, _, _, 1, rfl, rfl, hra, ixN_n (j := 1) (by show 1 < 4; decide), ?_⟩
      have h1 : upd H ra (.lst ([V.ref sc, .int c1, .int c2, .int c3].set 1 (.int (c1 + 1)))) ra = some (.lst [V.ref sc, .int (c1 + 1), .int c2, .int c3]) := upd_same
      have s1 : SqL K (upd H ra (.lst ([V.ref sc, .int c1, .int c2, .int c3].set 1 (.int (c1 + 1))))) sc (ns.map V.int) := kpM.sql hs
      have u1 : ∀ o, upd (upd H ra (.lst ([V.ref sc, .int c1, .int c2, .int c3].set 1 (.int (c1 + 1))))) ra o = upd H ra o := fun o => upd_upd
      refine ⟨_, rfl, ra, _, _, _, rfl, rfl, rd h1, atI_nat (j := 1) rfl, _, rfl, ra, _, _, _, rfl, rfl, rd h1, atI_nat (j := 0) rfl, sc, _, rfl, .inl s1, _, _, rfl, rfl, _, rfl, ?_⟩
      generalize upd H ra (.lst ([V.ref sc, .int c1, .int c2, .int c3].set 1 (.int (c1 + 1)))) = H1 at h1 s1 u1 ⊢
      have hM : (0 : Int) < 2147483647 := by decide
      have m48 : ∀ x : Int, CMul x 48271 := fun x => .inr ⟨by decide, by decide⟩
      have rp : 0 ≤ c1 + 1 := by have := R.a; omega
      by_cases hlen : ((ns.map V.int).length : Int) < c1 + 1
      · rw [decide_eq_true hlen]
        refine iteT ⟨_, rfl, ra, _, _, _, rfl, rfl, rd h1, atI_nat (j := 2) rfl, _, _, rfl, rfl, m48 _, _, _, rfl, rfl, .inl ⟨_, rfl, _, _, rfl, rfl, hM, ?_⟩⟩
        refine ⟨_, rfl, ra, _, _, 2, rfl, rfl, h1, ixN_n (j := 2) (by show 2 < 4; decide), ?_⟩
        rw [u1]
        have h2 : upd H ra (.lst ([V.ref sc, .int (c1 + 1), .int c2, .int c3].set 2 (.int ((c2 * 48271 + 11) % 2147483647)))) ra = some (.lst [V.ref sc, .int (c1 + 1), .int ((c2 * 48271 + 11) % 2147483647), .int c3]) := upd_same
        have hr2 := mod_rng (c2 * 48271 + 11) hM
        refine ⟨_, rfl, ra, _, _, _, rfl, rfl, rd h2, atI_nat (j := 2) rfl, _, _, rfl, rfl, ⟨by decide, by decide⟩, .inl ⟨_, rfl, _, rfl, _, _, rfl, rfl, hm, ?_⟩⟩
        have hx := mod_rng ((c2 * 48271 + 11) % 2147483647 / 7) hm
        exact q _ (c1 + 1) _ c3 hx.1 hx.2 ⟨rp, hr2.1, hr2.2⟩
      · rw [decide_eq_false hlen]
        refine iteF ?_
        obtain ⟨i, hi⟩ : ∃ i : Nat, c1 = (i : Int) := ⟨c1.toNat, by have := R.a; omega⟩
        have hil : i < ns.length := by
          rw [List.length_map] at hlen
          omega
        have hce : (ns.map V.int)[i]? = some (V.int (ns.getD i 0)) := by
          rw [List.getElem?_map, K84.some_getD hil]
          rfl
        refine ⟨_, rfl, ra, _, _, _, rfl, rfl, rd h1, atI_nat (j := 0) rfl, _, rfl, ra, _, _, _, rfl, rfl, rd h1, atI_nat (j := 1) rfl, _, _, rfl, rfl, sc, _, _, V.int (ns.getD i 0), rfl, rfl, s1, ?_, ?_⟩
        · show atI _ (c1 + 1 - 1) = _
          rw [show c1 + 1 - 1 = (i : Int) by omega]
          exact atI_nat hce
        generalize ns.getD i 0 = cell
        refine ⟨_, rfl, ra, _, _, _, rfl, rfl, rd h1, atI_nat (j := 2) rfl, _, _, rfl, rfl, m48 _, _, rfl, _, _, rfl, rfl, _, _, rfl, rfl, .inl ⟨_, rfl, _, _, rfl, rfl, hM, ?_⟩⟩
        refine ⟨_, rfl, ra, _, _, 2, rfl, rfl, h1, ixN_n (j := 2) (by show 2 < 4; decide), ?_⟩
        rw [u1]
        have h2 : upd H ra (.lst ([V.ref sc, .int (c1 + 1), .int c2, .int c3].set 2 (.int ((c2 * 48271 + cell + 11) % 2147483647)))) ra = some (.lst [V.ref sc, .int (c1 + 1), .int ((c2 * 48271 + cell + 11) % 2147483647), .int c3]) := upd_same
        have hr2 := mod_rng (c2 * 48271 + cell + 11) hM
        have hx := mod_rng cell hm
        refine ⟨_, rfl, _, _, rfl, rfl, ⟨by decide, by decide, by decide⟩, _, _, rfl, rfl, _, rfl, ?_⟩
        by_cases hb : (10 : Int) ^ (18 : Int).toNat ≤ cell
        · rw [decide_eq_true hb]
          refine iteT ⟨_, rfl, _, rfl, _, _, rfl, rfl, ⟨hm, by omega⟩, _, rfl, ra, _, _, 3, rfl, rfl, h2, ixN_n (j := 3) (by show 3 < 4; decide), ?_⟩
          rw [upd_upd]
          exact ⟨_, rfl, .inl ⟨_, rfl, _, rfl, _, _, rfl, rfl, hm, q _ (c1 + 1) _ _ hx.1 hx.2 ⟨rp, hr2.1, hr2.2⟩⟩⟩
        · rw [decide_eq_false hb]
          exact iteF ⟨_, rfl, .inl ⟨_, rfl, _, rfl, _, _, rfl, rfl, hm, q _ (c1 + 1) _ c3 hx.1 hx.2 ⟨rp, hr2.1, hr2.2⟩⟩⟩
end
end B84
namespace B84
open PySem PySem.Spec PyProof.Rows L2 K84
structure RowAt (H0 : Hp) (ra sc : Addr) (c1 c2 c3 : Int) (H : Hp) : Prop where
  kp : Kp H0 H
  row : H ra = some (rowV sc c1 c2 c3)
  ok : RowOk c1 c2
theorem RowAt.put {H0 : Hp} {ra sc : Addr} {c1 c2 c3 d1 d2 d3 : Int} {H : Hp} (R : RowAt H0 ra sc c1 c2 c3 H) (n : H0 ra = none) (ok : RowOk d1 d2) : RowAt H0 ra sc d1 d2 d3 (upd H ra (rowV sc d1 d2 d3)) := ⟨R.kp.mut n, upd_same, ok⟩
theorem RowAt.new {H0 : Hp} {ra sc : Addr} {c1 c2 c3 : Int} {H : Hp} (R : RowAt H0 ra sc c1 c2 c3 H) {p : Addr} {o : HO} (n : H p = none) : RowAt H0 ra sc c1 c2 c3 (upd H p o) := ⟨R.kp.new n, (upd_ne (ne_of_none R.row n)).trans R.row, R.ok⟩
/-- the arcs so far -/
structure LV (H0 : Hp) (ra sc la : Addr) (A : Arcs) (ps : List Addr) (c1 c2 c3 : Int) (H : Hp) : Prop where
  row : RowAt H0 ra sc c1 c2 c3 H
  lst : H la = some (.lst (ps.map V.ref))
  ne : la ≠ ra
  len : ps.length = A.length
  at_ : ∀ (k : Nat) (p : Addr) (e : Int × Int), ps[k]? = some p → A[k]? = some e → H p = some (pV e)
section
variable {H0 : Hp} {ra sc la : Addr} {A : Arcs} {ps : List Addr} {c1 c2 c3 d1 d2 d3 : Int} {H : Hp}
theorem LV.put (L : LV H0 ra sc la A ps c1 c2 c3 H) (n : H0 ra = none) (ok : RowOk d1 d2) : LV H0 ra sc la A ps d1 d2 d3 (upd H ra (rowV sc d1 d2 d3)) :=
  ⟨L.row.put n ok, (upd_ne L.ne).trans L.lst, L.ne, L.len, fun k p e h1 h2 => by
    have h := L.at_ k p e h1 h2
    rw [upd_ne (fun z => by rw [z, L.row.row] at h; cases h)]
    exact h⟩
theorem LV.new (L : LV H0 ra sc la A ps c1 c2 c3 H) {p : Addr} {o : HO} (n : H p = none) : LV H0 ra sc la A ps c1 c2 c3 (upd H p o) :=
  ⟨L.row.new n, (upd_ne (ne_of_none L.lst n)).trans L.lst, L.ne, L.len, fun k q e h1 h2 => (upd_ne (ne_of_none (L.at_ k q e h1 h2) n)).trans (L.at_ k q e h1 h2)⟩
theorem LV.same (L : LV H0 ra sc la A ps c1 c2 c3 H) {lb : Addr} (n : H lb = none) : LV H0 ra sc lb A ps c1 c2 c3 (upd H lb (.lst (ps.map V.ref ++ []))) :=
  ⟨L.row.new n, by rw [upd_same, List.append_nil], (ne_of_none L.row.row n).symm, L.len, (L.new n).at_⟩
theorem LV.add (L : LV H0 ra sc la A ps c1 c2 c3 H) {lb t : Addr} {e : Int × Int} (n : H lb = none) (ht : H t = some (pV e)) : LV H0 ra sc lb (A ++ [e]) (ps ++ [t]) c1 c2 c3 (upd H lb (.lst (ps.map V.ref ++ [.ref t]))) :=
  ⟨L.row.new n, by rw [upd_same, List.map_append]; rfl, (ne_of_none L.row.row n).symm, by rw [List.length_append, List.length_append, L.len]; rfl, fun k q x h1 h2 => by
    by_cases hk : k < A.length
    · rw [List.getElem?_append_left (by rw [L.len]; exact hk)] at h1
      rw [List.getElem?_append_left hk] at h2
      exact (L.new n).at_ k q x h1 h2
    · have e1 : k = A.length := by
        have := (List.getElem?_eq_some_iff.mp h2).1
        rw [List.length_append, List.length_singleton] at this
        omega
      subst e1
      rw [List.getElem?_append_right (by rw [L.len]; exact Nat.le_refl _), L.len, Nat.sub_self] at h1
      rw [List.getElem?_append_right (Nat.le_refl _), Nat.sub_self] at h2
      cases h1
      cases h2
      exact (upd_ne (ne_of_none ht n)).trans ht⟩
end
structure ArcsOk (n : Int) (A : Arcs) : Prop where
  nd : A.Nodup
  ok : ∀ u v, (u, v) ∈ A → (1 ≤ u ∧ u ≤ n) ∧ (1 ≤ v ∧ v ≤ n) ∧ u ≠ v
section
variable {P : Program} {w : World} {K : PySem.W.Frag} {mg : Str → Option Value} {base : Heap} {ts : List Addr}
def spLweb (K : PySem.W.Frag) : Sp := fun vs H Q _ => ∃ (ra sc : Addr) (H0 : Hp) (ns : List Int) (c1 c2 c3 : Int), vs = [.ref ra, .int 6] ∧ SqL K H0 sc (ns.map V.int) ∧ ns.length ≤ 63 ∧ H0 ra = none ∧ RowAt H0 ra sc c1 c2 c3 H ∧
  ∀ p H' n A c1 c2 c3, RowAt H0 ra sc c1 c2 c3 H' → WebH H' p n A → Web n A → A.length ≤ 10 → Q (.ref p) H'
theorem scLweb : FnScope ["_law_row", "_law_most", "_law_size", "_law_arcs", "_law_turn", "_law_source", "_law_goal"] ["_law_row", "_law_most"] (defScope sLweb) := ⟨rfl, rfl, rfl, by decide +kernel, rfl, by decide +kernel, by decide +kernel⟩
def LWv (H0 : Hp) (ra sc : Addr) (n : Int) (i : Nat) (σ : L2.St) (H' : Hp) : Prop := ∃ la A ps c1 c2 c3 y4 y5 y6, σ = [some (.ref ra), some (.int 6), some (.int n), some (.ref la), y4, y5, y6] ∧ LV H0 ra sc la A ps c1 c2 c3 H' ∧ ArcsOk n A ∧ A.length ≤ i
theorem ok_lweb {f : Addr} {fd : FuncData} {k : Nat} (F : Fun K "_law_web" "_law_web" sLweb f fd) (M : Free mg) (CT : Cal P w K mg base "_law_taken" k ["_law_row", "_law_many"] (spLtaken K)) : FnOk P w K mg base CX0 (k + 1) f fd ["_law_row", "_law_most"] (spLweb K) := by
  refine F.ok scLweb (fun vs H Q E h => ?_) (fun cdv A' outer s H vs Q E hr h => ?_)
  · obtain ⟨_, _, _, _, _, _, _, rfl, _⟩ := h
    rfl
  · obtain ⟨ra, sc, H0, ns, c1, c2, c3, rfl, hs, hns, nra, R, q⟩ := h
    have hu : (cxOf CX0 P w K mg base ["_law_row", "_law_most", "_law_size", "_law_arcs", "_law_turn", "_law_source", "_law_goal"] "_law_web" (defScope sLweb) f cdv A' outer s H E).nox.A.units + 65 < cLine := by
      have := hr.un
      show (A'.deeper (envOfC "_law_web" (defScope sLweb) s.heap.objs.size f cdv)).units + 65 < cLine
      omega
    refine ⟨_,
      ((pss_cons (ps_par (i := 2) (j := 3) rfl scLweb.nd rfl rfl (by decide) rfl rfl (pa_cons (pe_op op_add pe_int (pe_c CT hr (by rfl) (pa_cons (pv 0) (pa_cons (pv 1) pa_nil)))) (pa_cons (pe_lst pa_nil) pa_nil)) (by rfl))
      (pss_cons (ps_for PassesOwn.never rfl (pi_range1 (by rfl) M.range (pa_cons (pe_c CT hr (by rfl) (pa_cons (pv 0) (pa_cons pe_int pa_nil))) pa_nil)) (pg_name (i := 4) scLweb.nd rfl (Or.inl rfl)) (pss_one (ps_if (pt_cmpR op_gt (pv 2) pe_int (nomark _)) (pss_cons (ps_set (i := 5) scLweb.nd rfl (Or.inl rfl) (pe_op op_add pe_int (pe_c CT hr (by rfl) (pa_cons (pv 0) (pa_cons (pv 2) pa_nil)))))
      (pss_cons (ps_set (i := 6) scLweb.nd rfl (Or.inl rfl) (pe_op op_add pe_int (pe_op op_mod (pe_op op_add (pv 5) (pe_c CT hr (by rfl) (pa_cons (pv 0) (pa_cons (pe_op op_sub (pv 2) pe_int) pa_nil)))) (pv 2))))
      (pss_one (ps_set (i := 3) scLweb.nd rfl (Or.inl rfl) (pe_op op_cat (pv 3) (pe_op op_rep (pe_lst (pa_cons (pe_tup (pa_cons (pv 5) (pa_cons (pv 6) pa_nil))) pa_nil)) (pe_callTy call_int1 (by rfl) M.int_ b_int (pa_cons (pe_cmpR (op_notInD hu) (pe_tup (pa_cons (pv 5) (pa_cons (pv 6) pa_nil))) (pv 3) (by rfl)) pa_nil)))))))) pss_nil)))
      (pss_one (ps_ret (pe_tup (pa_cons (pv 2) (pa_cons (pe_tupleOf (by rfl) M.tuple (pv 3)) pa_nil))))))))
      , ?_⟩
    refine ⟨_, rfl, _, rfl, ra, sc, H0, ns, c1, c2, c3, 6, rfl, hs, hns, R.kp, nra, R.row, R.ok, by decide, by decide, fun x0 c1 c2 c3 hx0 hx6 ok1 => ?_⟩
    refine ⟨_, _, rfl, rfl, by rw [sizeLine_eq]; show 0 ≤ 16777216; decide, fun la nla => ?_⟩
    have R1 : RowAt H0 ra sc c1 c2 c3 _ := R.put nra ok1
    have L1 : LV H0 ra sc la [] [] c1 c2 c3 _ := ⟨R1.new (o := .lst []) nla, upd_same, (ne_of_none R1.row nla).symm, rfl, fun k p e h => by simp at h⟩
    refine ⟨_, _, rfl, _, rfl, ra, sc, H0, ns, c1, c2, c3, 11, rfl, hs, hns, L1.row.kp, nra, L1.row.row, L1.row.ok, by decide, by decide, fun x1 c1 c2 c3 hx1 hx11 ok2 => ?_⟩
    have L2' : LV H0 ra sc la [] [] c1 c2 c3 _ := L1.put nra ok2
    refine ⟨x1, rfl, by omega, by omega, ?_⟩
    have hn1 : 1 ≤ 1 + x0 := by omega
    have hn6 : 1 + x0 ≤ 6 := by omega
    refine for_it walk_range (LWv H0 ra sc (1 + x0)) ⟨la, [], [], c1, c2, c3, _, _, _, rfl, L2', ⟨List.nodup_nil, fun u v h => absurd h List.not_mem_nil⟩, Nat.le_refl _⟩ (fun _ _ _ _ _ => trivial) ?_ ?_
    · rintro i x σ H1 H2 hi ⟨la, A, ps, c1, c2, c3, y4, y5, y6, rfl, L, AO, hl⟩ ⟨rfl, rfl⟩
      generalize 1 + x0 = n at hn1 hn6 AO ⊢
      refine ⟨_, rfl, _, _, rfl, rfl, _, rfl, ?_⟩
      by_cases h1 : 1 < n
      · rw [decide_eq_true h1]
        refine iteT ⟨_, rfl, _, rfl, ra, sc, H0, ns, c1, c2, c3, n, rfl, hs, hns, L.row.kp, nra, L.row.row, L.row.ok, hn1, by omega, fun x c1 c2 c3 hx hxn ok3 => ?_⟩
        have L3 : LV H0 ra sc la A ps c1 c2 c3 _ := L.put nra ok3
        refine ⟨_, _, rfl, rfl, ?_⟩
        refine ⟨_, rfl, _, rfl, _, rfl, _, _, rfl, rfl, ra, sc, H0, ns, c1, c2, c3, n - 1, rfl, hs, hns, L3.row.kp, nra, L3.row.row, L3.row.ok, by omega, by omega, fun y c1 c2 c3 hy hyn ok4 => ?_⟩
        have L4 : LV H0 ra sc la A ps c1 c2 c3 _ := L3.put nra ok4
        rw [upd_upd] at L4 ⊢
        clear L3
        generalize upd H2 ra (rowV sc c1 c2 c3) = H3 at L4 ⊢
        refine ⟨_, _, rfl, rfl, _, rfl, _, n, rfl, rfl, (by omega : 0 < n), _, _, rfl, rfl, ?_⟩
        have hgm := mod_rng (1 + x + y) (show 0 < n by omega)
        have gne : 1 + x ≠ 1 + (1 + x + y) % n := fun e => by
          have e1 : (1 + x + y) % n = x := by omega
          have e2 : (1 + x + y - x) % n = 0 := by
            rw [Int.sub_emod, e1, Int.emod_eq_of_lt hx hxn, Int.sub_self, Int.zero_emod]
          rw [show 1 + x + y - x = 1 + y by omega, Int.emod_eq_of_lt (by omega) (by omega)] at e2
          omega
        have la10 : A.length ≤ 10 := by omega
        refine ⟨_, rfl, _, rfl, _, rfl, by rw [sizeLine_eq]; show 2 ≤ 16777216; decide, fun t1 nt1 => ⟨by rw [sizeLine_eq]; show 1 ≤ 16777216; decide, fun l1 nl1 => ?_⟩⟩
        have L5 := (L4.new (o := pV (1 + x, 1 + (1 + x + y) % n)) nt1).new (o := .lst [.ref t1]) nl1
        have ht1 : upd (upd H3 t1 (pV (1 + x, 1 + (1 + x + y) % n))) l1 (.lst [.ref t1]) t1 = some (pV (1 + x, 1 + (1 + x + y) % n)) := by
          rw [upd_ne (ne_of_none upd_same nl1), upd_same]
        have hl1 : upd (upd H3 t1 (pV (1 + x, 1 + (1 + x + y) % n))) l1 (.lst [.ref t1]) l1 = some (.lst [.ref t1]) := upd_same
        refine ⟨_, rfl, _, rfl, by rw [sizeLine_eq]; show 2 ≤ 16777216; decide, fun t2 nt2 => ?_⟩
        have L6 := L5.new (o := pV (1 + x, 1 + (1 + x + y) % n)) nt2
        have ht1' := (upd_ne (o := pV (1 + x, 1 + (1 + x + y) % n)) (ne_of_none ht1 nt2)).trans ht1
        have hl1' := (upd_ne (o := pV (1 + x, 1 + (1 + x + y) % n)) (ne_of_none hl1 nt2)).trans hl1
        have ht2 : upd (upd (upd H3 t1 (pV (1 + x, 1 + (1 + x + y) % n))) l1 (.lst [.ref t1])) t2 (pV (1 + x, 1 + (1 + x + y) % n)) t2 = some (pV (1 + x, 1 + (1 + x + y) % n)) := upd_same
        refine ⟨_, rfl, R8.prD (1 + x, 1 + (1 + x + y) % n), A.map R8.prD, dp_pair ht2, .lst (SqL.of L6.lst) (dp_pairs L6.len L6.at_), R8.prD_shaped _, R8.prDs_shapedL _, .inr ⟨_, rfl, ?_⟩⟩
        rw [R8.any_prD]
        generalize upd (upd (upd H3 t1 (pV (1 + x, 1 + (1 + x + y) % n))) l1 (.lst [.ref t1])) t2 (pV (1 + x, 1 + (1 + x + y) % n)) = H4 at L6 ht1' hl1' ⊢
        by_cases hin : (1 + x, 1 + (1 + x + y) % n) ∈ A
        · rw [decide_eq_true hin]
          refine ⟨l1, 0, _, rfl, rfl, hl1', by decide, by decide, by rw [sizeLine_eq]; show 1 * 0 ≤ 16777216; decide, fun l2 nl2 => ?_⟩
          have L7 := L6.new (o := .lst []) nl2
          refine ⟨la, l2, _, _, rfl, rfl, L7.lst, upd_same, ?_, fun l3 nl3 => ?_⟩
          · rw [List.length_map, L7.len, sizeLine_eq]
            show A.length + 0 ≤ _
            omega
          exact ⟨l3, A, ps, c1, c2, c3, _, _, _, rfl, L7.same nl3, AO, by omega⟩
        · rw [decide_eq_false hin]
          refine ⟨l1, 1, _, rfl, rfl, hl1', by decide, by decide, by rw [sizeLine_eq]; show 1 * 1 ≤ 16777216; decide, fun l2 nl2 => ?_⟩
          have L7 := L6.new (o := .lst [.ref t1]) nl2
          refine ⟨la, l2, _, _, rfl, rfl, L7.lst, upd_same, ?_, fun l3 nl3 => ?_⟩
          · rw [List.length_map, L7.len, sizeLine_eq]
            show A.length + 1 ≤ _
            omega
          refine ⟨l3, A ++ [(1 + x, 1 + (1 + x + y) % n)], ps ++ [t1], c1, c2, c3, _, _, _, rfl, L7.add nl3 ((upd_ne (ne_of_none ht1' nl2)).trans ht1'), ⟨?_, fun u v h => ?_⟩, by rw [List.length_append, List.length_singleton]; omega⟩
          · exact List.nodup_append.mpr ⟨AO.nd, by simp, fun a ha b hb e => hin (by rw [← List.mem_singleton.mp hb, ← e]; exact ha)⟩
          · rcases List.mem_append.mp h with q | q
            · exact AO.ok u v q
            · have e := List.mem_singleton.mp q
              cases e
              exact ⟨⟨by omega, by omega⟩, ⟨by omega, by omega⟩, gne⟩
      · rw [decide_eq_false h1]
        exact iteF ⟨la, A, ps, c1, c2, c3, _, _, _, rfl, L, AO, by omega⟩
    · rintro σ H1 ⟨la, A, ps, c1, c2, c3, y4, y5, y6, rfl, L, AO, hl⟩
      refine ⟨_, rfl, _, rfl, .inl ⟨la, _, rfl, SqL.of L.lst, fun t nt => ?_⟩⟩
      refine ⟨by rw [sizeLine_eq]; show 2 ≤ 16777216; decide, fun w nw => ?_⟩
      have L2 := (L.new (o := .tup (ps.map V.ref)) nt).new (o := .tup [.int (1 + x0), .ref t]) nw
      have ten : A.length ≤ 10 := by omega
      have ht : upd (upd H1 t (.tup (ps.map V.ref))) w (.tup [.int (1 + x0), .ref t]) t = some (.tup (ps.map V.ref)) := by
        rw [upd_ne (ne_of_none upd_same nw), upd_same]
      exact q w _ (1 + x0) A c1 c2 c3 L2.row ⟨t, ps, upd_same, ht, L2.len, L2.at_⟩ ⟨hn1, hn6, by omega, AO.ok, AO.nd⟩ ten
end
end B84
namespace B84
open PySem PySem.Spec PyProof.Rows L2 K84
theorem kp_off {H H1 : Hp} {ra : Addr} (k : Kp H H1) (n : H ra = none) : Kp H (G8.off H1 ra) := ⟨fun b o h z => by
  rw [G8.off_ne (ne_of_none h n)]
  exact k.old b o h z, fun T ps h => by
  obtain ⟨qs, h2, t⟩ := k.tab T ps h
  exact ⟨qs, by rw [G8.off_ne (ne_of_none h n)]; exact h2, t⟩⟩
theorem off_none {H1 : Hp} {ra : Addr} : G8.off H1 ra ra = none := if_pos rfl
theorem off_kp {H1 : Hp} {ra : Addr} : Kp (G8.off H1 ra) H1 := ⟨fun b o h _ => by
  by_cases e : b = ra
  · rw [e, off_none] at h; cases h
  · rw [G8.off_ne e] at h; exact h, fun T ps h => by
  by_cases e : T = ra
  · rw [e, off_none] at h; cases h
  · rw [G8.off_ne e] at h; exact ⟨ps, h, fun z => z⟩⟩
theorem off_get {H1 : Hp} {ra b : Addr} {o : HO} {xs : List V} (h : H1 b = some o) (hr : H1 ra = some (.lst xs)) (n : ∀ ys, o ≠ .lst ys) : G8.off H1 ra b = some o := by
  rw [G8.off_ne, h]
  intro e
  rw [e, hr] at h
  exact n xs (Option.some.inj h).symm
theorem webH_off {H1 : Hp} {ra wa : Addr} {n : Int} {A : Arcs} {xs : List V} (h : WebH H1 wa n A) (hr : H1 ra = some (.lst xs)) : WebH (G8.off H1 ra) wa n A := by
  obtain ⟨b, ps, h1, h2⟩ := h
  exact ⟨b, ps, off_get h1 hr fun _ z => (nomatch z), off_get h2.tup hr fun _ z => (nomatch z), h2.len, fun k p e e1 e2 => off_get (h2.at_ k p e e1 e2) hr fun _ z => (nomatch z)⟩
theorem flat_rep (c : Int) : ∀ m : Nat, (List.replicate m [V.int c]).flatten = (List.replicate m c).map V.int
  | 0 => rfl
  | m + 1 => by
    rw [List.replicate_succ, List.flatten_cons, List.replicate_succ, List.map_cons, flat_rep c m]
    rfl
theorem rd_repA {H : Hp} {l : Addr} {m : Nat} {c : Int} {Q : VK} (hl : H l = some (.tup [.int c])) (hm : m ≤ 1000) (q : ∀ p H', Kp H H' → H' p = some (.tup ((List.replicate m c).map V.int)) → Q (.ref p) H') : R8.rRepA (.ref l) (.int (m : Int)) H Q := by
  refine ⟨l, m, [.int c], rfl, rfl, hl, by simp, by omega, by omega, by show 1 ≤ 1000; decide, fun z => q l H (Kp.refl H) ?_, fun _ p np => q p _ (Kp.upd np) ?_⟩
  · have : m = 1 := by omega
    rw [this]
    exact hl
  · rw [upd_same]
    congr 2
    show (List.replicate ((m : Int).toNat) [V.int c]).flatten = _
    rw [Int.toNat_natCast]
    exact flat_rep c m
abbrev tD (l : List Int) : PyData := .tuple (l.map PyData.int)
theorem dp_ints {K : PySem.W.Frag} {H : Hp} : ∀ l : List Int, DpAll K H (l.map V.int) (l.map PyData.int)
  | [] => .nil
  | a :: r => .cons (.int a) (dp_ints r)
theorem ints_lay : ∀ l : List Int, PyData.canLayAll0 (l.map PyData.int) = true
  | [] => rfl
  | a :: r => by
    rw [List.map_cons]
    simp only [PyData.canLayAll0, PyData.canLay0, ints_lay r, Bool.and_self]
theorem ints_depth : ∀ l : List Int, PyData.depthAll (l.map PyData.int) ≤ 1
  | [] => by simp [PyData.depthAll]
  | a :: r => by
    have h := ints_depth r
    rw [List.map_cons]
    simp only [PyData.depthAll, PyData.depth]
    omega
theorem tD_shaped (l : List Int) : SeqAt.shaped (tD l) = true := by
  have h := ints_depth l
  have e : (tD l).depth ≤ 64 := by
    simp only [PyData.depth]
    omega
  unfold SeqAt.shaped
  rw [decide_eq_true e, Bool.and_true]
  exact ints_lay l
theorem tD_nil (l : List Int) : PyData.eqv (tD l) (.tuple []) = decide (l = []) := by
  cases l with
  | nil => rfl
  | cons a r => rfl
section
variable {P : Program} {w : World} {K : PySem.W.Frag} {mg : Str → Option Value} {base : Heap} {ts : List Addr}
def spLaw (K : PySem.W.Frag) (ts : List Addr) : Sp := fun vs H Q _ => ∃ (sc : Addr) (ns : List Int), vs = [.ref sc] ∧ SqL K H sc (ns.map V.int) ∧ ns.length ≤ 63 ∧ Tabs ts H ∧ ∀ H', Q (.bl true) H'
theorem scLaw : FnScope ["_law_script", "_law_row", "_law_web_here", "_law_prices", "_law_found", "_law_top", "_law_equal", "_law_person", "_law_price", "_law_raised", "_law_arc"] ["_law_script"] (defScope sLaw) := ⟨rfl, rfl, rfl, by decide +kernel, rfl, by decide +kernel, by decide +kernel⟩
theorem ok_law {f : Addr} {fd : FuncData} {k : Nat} (F : Fun K "law" "law" sLaw f fd) (M : Free mg) (CT : Cal P w K mg base "_law_taken" k ["_law_row", "_law_many"] (spLtaken K)) (CLw : Cal P w K mg base "_law_web" k ["_law_row", "_law_most"] (spLweb K)) (CAg : Cal P w K mg base "cheap_agreement" k ["web", "prices"] (spAgree ts))
    (CWi : Cal P w K mg base "winners" k ["web"] (spWinners ts)) (CCw : Cal P w K mg base "cheap_win" k ["web", "prices", "person"] (spCheapWin ts)) (CSh : Cal P w K mg base "shows_agreement" k ["web", "prices", "value"] (spShows ts)) : FnOk P w K mg base CX0 (k + 1) f fd ["_law_script"] (spLaw K ts) := by
  refine F.ok scLaw (fun vs H Q E h => ?_) (fun cdv A' outer s H vs Q E hr h => ?_)
  · obtain ⟨_, _, rfl, _⟩ := h
    rfl
  · obtain ⟨sc, ns, rfl, hs, hns, tb, q⟩ := h
    have hu : (cxOf CX0 P w K mg base ["_law_script", "_law_row", "_law_web_here", "_law_prices", "_law_found", "_law_top", "_law_equal", "_law_person", "_law_price", "_law_raised", "_law_arc"] "law" (defScope sLaw) f cdv A' outer s H E).nox.A.units + 64 < cLine := by
      have := hr.un
      show (A'.deeper (envOfC "law" (defScope sLaw) s.heap.objs.size f cdv)).units + 64 < cLine
      omega
    refine ⟨_,
      ((pss_cons (ps_set (i := 1) scLaw.nd rfl (Or.inr rfl) (pe_lst (pa_cons (pv 0) (pa_cons pe_int (pa_cons pe_int (pa_cons pe_int pa_nil))))))
      (pss_cons (ps_set (i := 2) scLaw.nd rfl (Or.inl rfl) (pe_c CLw hr (by rfl) (pa_cons (pv 1) (pa_cons pe_int pa_nil))))
      (pss_cons (ps_set (i := 3) scLaw.nd rfl (Or.inl rfl) (pe_tupleOf (by rfl) M.tuple (pe_lc (own := [("_law_arc", 10)]) rfl scLaw.nd (pi_tup (pe_ix ix_tup (pv 2) pe_int (fun _ _ => rfl))) (blkOk_by (own := [("_law_arc", 10)]) (N := ["_law_script", "_law_row", "_law_web_here", "_law_prices", "_law_found", "_law_top", "_law_equal", "_law_person", "_law_price", "_law_raised", "_law_arc"]) (sc := defScope sLaw) (by decide +kernel)) (fun _ _ _ _ _ => (pg_name (i := 10) scLaw.nd rfl (Or.inl rfl))) (fun _ _ _ _ _ => pts_nil) (fun _ _ _ _ _ => (pe_c CT hr (by rfl) (pa_cons (pv 1) (pa_cons pe_int pa_nil)))))))
      (pss_cons (ps_par (i := 4) (j := 5) rfl scLaw.nd rfl rfl (by decide) rfl rfl (pa_cons (pe_c CAg hr (by rfl) (pa_cons (pv 2) (pa_cons (pv 3) pa_nil))) (pa_cons (pe_c CWi hr (by rfl) (pa_cons (pv 2) pa_nil)) pa_nil)) (by rfl))
      (pss_cons (ps_if (pt_cmpR op_ne (pe_cmpR op_isN (pv 4) pe_non (nomark _)) (pe_cmpR (op_eqD hu) (pv 5) (pe_tup pa_nil) (nomark _)) (nomark _)) (pss_one (ps_ret pe_bl)) pss_nil)
      (pss_cons (ps_set (i := 6) scLaw.nd rfl (Or.inl rfl) (pe_c CAg hr (by rfl) (pa_cons (pv 2) (pa_cons (pe_op R8.op_repA (pe_tup (pa_cons pe_int pa_nil)) (pe_callB call_len_seq (by rfl) M.len PySem.boot_len (pa_cons (pe_ix ix_tup (pv 2) pe_int (fun _ _ => rfl)) pa_nil))) pa_nil))))
      (pss_cons (ps_if (pt_cmpR op_isN (pv 4) pe_non (nomark _)) (pss_one (ps_ret (pe_cmpR op_isN (pv 6) pe_non (nomark _)))) pss_nil)
      (pss_cons (ps_if (PW.pt (pw_or (pt_cmpR (op_neD hu) (pe_slice sl_tupA (pv 6) po_none (po_some pe_int)) (pe_tup (pa_cons (pe_op op_mul pe_int (pe_op op_sub (pe_ix ix_tup (pv 2) pe_int (fun _ _ => rfl)) pe_int)) (pa_cons (pe_ix ix_tup (pv 5) pe_int (fun _ _ => rfl)) pa_nil))) (nomark _)) (pw_or1 (pt_cmpR op_notIn_seq (pe_ix ix_tup (pv 4) pe_int (fun _ _ => rfl)) (pv 5) (by rfl))))) (pss_one (ps_ret pe_bl)) pss_nil)
      (pss_cons (ps_for PassesOwn.never rfl (pi_tup (pv 5)) (pg_name (i := 7) scLaw.nd rfl (Or.inl rfl)) (pss_cons (ps_set (i := 8) scLaw.nd rfl (Or.inl rfl) (pe_ix ix_tup (pe_c CCw hr (by rfl) (pa_cons (pv 2) (pa_cons (pv 3) (pa_cons (pv 7) pa_nil)))) pe_int (fun _ _ => rfl)))
      (pss_one (ps_if (PW.pt (pw_or (pt_cmpR op_lt (pv 8) (pe_ix ix_tup (pv 4) pe_int (fun _ _ => rfl)) (nomark _)) (pw_or1 (PW.pt (pw_and (pt_cmpR op_eq (pv 8) (pe_ix ix_tup (pv 4) pe_int (fun _ _ => rfl)) (nomark _)) (pw_and1 (pt_cmpR op_lt (pv 7) (pe_ix ix_tup (pv 4) pe_int (fun _ _ => rfl)) (nomark _)))))))) (pss_one (ps_ret pe_bl)) pss_nil))))
      (pss_cons (ps_set (i := 9) scLaw.nd rfl (Or.inl rfl) (pe_tupleOf (by rfl) M.tuple (pe_lc (own := [("_law_price", 8)]) rfl scLaw.nd (pi_tup (pv 3)) (blkOk_by (own := [("_law_price", 8)]) (N := ["_law_script", "_law_row", "_law_web_here", "_law_prices", "_law_found", "_law_top", "_law_equal", "_law_person", "_law_price", "_law_raised", "_law_arc"]) (sc := defScope sLaw) (by decide +kernel)) (fun _ _ _ _ _ => (pg_name (i := 8) scLaw.nd rfl (Or.inl rfl))) (fun _ _ _ _ _ => pts_nil) (fun _ _ _ _ _ => (pe_op op_add (pv 8) pe_int)))))
      (pss_cons (ps_if (pt_cmpR (op_neD hu) (pe_slice sl_tupA (pe_c CAg hr (by rfl) (pa_cons (pv 2) (pa_cons (pv 9) pa_nil))) po_none (po_some pe_int)) (pe_tup (pa_cons (pe_op op_add (pe_ix ix_tup (pv 4) pe_int (fun _ _ => rfl)) (pe_op op_mul pe_int (pe_op op_sub (pe_ix ix_tup (pv 2) pe_int (fun _ _ => rfl)) pe_int))) (pa_cons (pe_ix ix_tup (pv 4) pe_int (fun _ _ => rfl)) pa_nil))) (nomark _)) (pss_one (ps_ret pe_bl)) pss_nil)
      (pss_one (ps_ret (pe_and (pe_cmpR op_isBl (pe_c CSh hr (by rfl) (pa_cons (pv 2) (pa_cons (pv 3) (pa_cons (pv 4) pa_nil)))) pe_bl (nomark _)) (pe_one (pe_cmpR op_isBl (pe_c CSh hr (by rfl) (pa_cons (pv 2) (pa_cons (pv 3) (pa_cons pe_non pa_nil)))) pe_bl (nomark _))))))))))))))))))
      , ?_⟩
    refine ⟨_, rfl, by rw [sizeLine_eq]; show 4 ≤ 16777216; decide, fun ra nra => ?_⟩
    have R0 : RowAt H ra sc 0 8084 0 (upd H ra (rowV sc 0 8084 0)) := ⟨Kp.upd nra, upd_same, by decide, by decide, by decide⟩
    refine ⟨_, rfl, ra, sc, H, ns, 0, 8084, 0, rfl, hs, hns, nra, R0, fun wa H1 n A c1 c2 c3 R1 hw1 Wb ten => ?_⟩
    clear R0
    have kb := kp_off R1.kp nra
    have hwb := webH_off hw1 R1.row
    have R2 : RowAt (G8.off H1 ra) ra sc c1 c2 c3 H1 := ⟨off_kp, R1.row, R1.ok⟩
    have nb : G8.off H1 ra ra = none := off_none
    have hsb := kb.sql hs
    have tbb := tb.kp kb
    have nD0 : ∀ D, H1 D = none → G8.off H1 ra D = none := fun D h => off_kp.free h
    generalize G8.off H1 ra = Hb at kb hwb R2 nb hsb tbb nD0
    clear R1 hw1 hs tb kb nra
    obtain ⟨b0, ps, ha, hA⟩ := hwb
    refine ⟨_, rfl, wa, _, _, _, rfl, rfl, SqT.of (R2.kp.tup ha), atI_nat (j := 1) rfl, b0, rfl, ⟨_, SqT.of (R2.kp.tup hA.tup)⟩, fun D nD => ?_⟩
    have Dra : D ≠ ra := fun e => by
      rw [e, R2.row] at nD
      cases nD
    refine lc_it walk_tup (fun j H2 => ∃ (p : List Int) (c1 c2 c3 : Int), RowAt Hb ra sc c1 c2 c3 H2 ∧ H2 D = some (.lst (List.map V.int p)) ∧ p.length = j ∧ ∀ x, x ∈ p → 0 ≤ x ∧ x ≤ 40) ⟨[], _, _, _, R2.new (o := .lst []) nD, upd_same, rfl, fun x h => absurd h List.not_mem_nil⟩ (fun j H2 _ ⟨_, _, _, _, R, _⟩ => SqT.of (R.kp.tup hA.tup)) ?_ ?_
    · rintro j x H2 H3 hj ⟨p, d1, d2, d3, R, hD, pl, prng⟩ ⟨rfl, hx⟩
      refine ⟨rfl, ?_⟩
      unfold tYes
      refine iteT ⟨_, rfl, ra, sc, Hb, ns, d1, d2, d3, 40, rfl, hsb, hns, R.kp, nb, R.row, R.ok, by decide, by decide, fun y e1 e2 e3 hy hy2 ok => ?_⟩
      have R3 : RowAt Hb ra sc e1 e2 e3 _ := R.put nb ok
      refine ⟨_, (upd_ne Dra).trans hD, ?_, p ++ [y], e1, e2, e3, ⟨R3.kp.mut (nD0 D nD), (upd_ne Dra.symm).trans R3.row, ok⟩, ?_, ?_, ?_⟩
      · rw [List.length_map, pl, sizeLine_eq]
        rw [List.length_map, hA.len] at hj
        have := Wb.few
        omega
      · rw [upd_same, List.map_append]
        rfl
      · rw [List.length_append, pl]
        rfl
      · intro z hz
        rcases List.mem_append.mp hz with m | m
        · exact prng z m
        · rw [List.mem_singleton.mp m]
          omega
    rintro H2 ⟨p, d1, d2, d3, R, hD, pl, prng⟩
    refine .inl ⟨D, _, rfl, SqL.of hD, fun pa npa => ?_⟩
    have kp3 : Kp Hb (upd H2 pa (.tup (List.map V.int p))) := R.kp.new npa
    have hpa : upd H2 pa (.tup (List.map V.int p)) pa = some (.tup (List.map V.int p)) := upd_same
    have po : PrOk A p := ⟨by rw [pl, List.length_map, hA.len], fun x hx => by have := prng x hx; omega⟩
    have hw3 : WebH (upd H2 pa (.tup (List.map V.int p))) wa n A := ⟨b0, ps, kp3.tup ha, hA.kp kp3⟩
    have tb3 := tbb.kp kp3
    generalize upd H2 pa (.tup (List.map V.int p)) = H3 at kp3 hpa hw3 tb3 ⊢
    clear hD npa R nD
    have hn6 := Wb.hi
    have hn1 := Wb.lo
    have few := Wb.few
    have poE : PrOk A (List.replicate A.length 3) := ⟨List.length_replicate, fun x hx => by rw [List.eq_of_mem_replicate hx]; decide⟩
    have plen : ∀ {H' : Hp}, Kp H3 H' → ∃ b ps, H' wa = some (.tup [.int n, .ref b]) ∧ ArcsH H' b A ps := fun k => hw3.kp k
    refine ⟨_, rfl, _, rfl, wa, pa, n, A, p, rfl, hw3, Wb, hpa, po, tb3, fun h0 H4 kp4 => ?_, fun t la H4 W r L kp4 ht hla B => ?_⟩
    · refine ⟨_, rfl, wa, n, A, rfl, hw3.kp kp4, Wb, tb3.kp kp4, fun ta H5 kp5 hta => ?_⟩
      rw [h0] at hta
      have kp6 := kp4.trans kp5
      refine ⟨_, _, rfl, ?_⟩
      refine ⟨_, rfl, rfl, _, rfl, by rw [sizeLine_eq]; show 0 ≤ 16777216; decide, fun e0 ne0 => ?_⟩
      have kp7 := kp6.new (o := .tup []) ne0
      refine ⟨.tuple [], .tuple [], .tup (SqT.of ((Kp.upd ne0).tup hta)) .nil, .tup (SqT.of upd_same) .nil, rfl, rfl, rfl, _, rfl, ?_⟩
      generalize upd H5 e0 (.tup []) = H6 at kp7 ⊢
      refine iteF ?_
      obtain ⟨b1, ps1, ha1, hA1⟩ := plen kp7
      refine ⟨_, rfl, by rw [sizeLine_eq]; show 1 ≤ 16777216; decide, fun t3 n3 => ?_⟩
      have k3 := kp7.new (o := .tup [.int 3]) n3
      refine ⟨_, rfl, wa, _, _, _, rfl, rfl, SqT.of ((Kp.upd n3).tup ha1), atI_nat (j := 1) rfl, b1, _, rfl, .inr (SqT.of ((Kp.upd n3).tup hA1.tup)), ?_⟩
      have el : (List.map V.ref ps1).length = A.length := by rw [List.length_map, hA1.len]
      refine rd_repA (m := (List.map V.ref ps1).length) upd_same (by omega) fun pe H7 kp8 hpe => ?_
      rw [el] at hpe
      have kp9 := k3.trans kp8
      refine ⟨wa, pe, n, A, _, rfl, hw3.kp kp9, Wb, hpe, poE, tb3.kp kp9, fun _ H8 kp10 => ?_, fun t la H8 W r L kp10 ht hla B => ?_⟩
      · refine ⟨_, rfl, rfl, _, rfl, iteT ⟨_, rfl, rfl, ?_⟩⟩
        rw [decide_eq_true rfl]
        exact q H8
      · have := B.best.win
        rw [h0] at this
        cases this
    · have hne : wins n A ≠ [] := fun z => by
        have := B.best.win
        rw [z] at this
        cases this
      refine ⟨_, rfl, wa, n, A, rfl, hw3.kp kp4, Wb, tb3.kp kp4, fun ta H5 kp5 hta => ?_⟩
      have kp6 := kp4.trans kp5
      have ht6 := kp5.tup ht
      have hla6 := kp5.tup hla
      refine ⟨_, _, rfl, ?_⟩
      refine ⟨_, rfl, rfl, _, rfl, by rw [sizeLine_eq]; show 0 ≤ 16777216; decide, fun e0 ne0 => ?_⟩
      have ke := Kp.upd (o := .tup []) ne0
      refine ⟨tD (wins n A), .tuple [], .tup (SqT.of (ke.tup hta)) (dp_ints _), .tup (SqT.of upd_same) .nil, tD_shaped _, rfl, rfl, _, rfl, ?_⟩
      have eb : (!decide (V.bl (decide (V.ref t = V.non)) = V.bl (PyData.eqv (tD (wins n A)) (.tuple [])))) = false := by
        rw [tD_nil, decide_eq_false hne, decide_eq_false (show ¬ V.ref t = V.non from fun z => nomatch z)]
        rfl
      rw [eb]
      refine iteF ?_
      have kp7 := kp6.trans ke
      have ht7 := ke.tup ht6
      have hla7 := ke.tup hla6
      have hta7 := ke.tup hta
      have ke' : Kp H5 (upd H5 e0 (.tup [])) := ke
      generalize upd H5 e0 (.tup []) = H6 at kp7 ht7 hla7 hta7 ke' ⊢
      clear ht6 hla6 hta ke kp6
      obtain ⟨b1, ps1, ha1, hA1⟩ := plen kp7
      refine ⟨_, rfl, by rw [sizeLine_eq]; show 1 ≤ 16777216; decide, fun t3 n3 => ?_⟩
      have k3 := kp7.new (o := .tup [.int 3]) n3
      refine ⟨_, rfl, wa, _, _, _, rfl, rfl, SqT.of ((Kp.upd n3).tup ha1), atI_nat (j := 1) rfl, b1, _, rfl, .inr (SqT.of ((Kp.upd n3).tup hA1.tup)), ?_⟩
      have el : (List.map V.ref ps1).length = A.length := by rw [List.length_map, hA1.len]
      refine rd_repA (m := (List.map V.ref ps1).length) upd_same (by omega) fun pe H7 kp8 hpe => ?_
      rw [el] at hpe
      have kp9 := k3.trans kp8
      have k79 := (Kp.upd (o := .tup [.int 3]) n3).trans kp8
      refine ⟨wa, pe, n, A, _, rfl, hw3.kp kp9, Wb, hpe, poE, tb3.kp kp9, fun z => absurd z hne, fun t2 la2 H8 W2 r2 L2 kp10 ht2 hla2 B2 => ?_⟩
      have kp11 := kp9.trans kp10
      have k8 := k79.trans kp10
      have ht8 := k8.tup ht7
      have hla8 := k8.tup hla7
      have hta8 := k8.tup hta7
      obtain ⟨eW2, er2⟩ := B2.best.equal (c := 3) (fun k hk => by rw [List.getD_eq_getElem?_getD, List.getElem?_replicate, if_pos hk]; rfl) B2.all
      have kp10' : Kp H4 H8 := ((kp5.trans ke').trans k79).trans kp10
      clear k8 k79 hpe hta7 hla7 ht7 kp9 kp10
      refine ⟨_, rfl, rfl, _, rfl, ?_⟩
      rw [decide_eq_false (show ¬ V.ref t = V.non from fun z => nomatch z)]
      refine iteF ?_
      obtain ⟨b2, ps2, ha2, hA2⟩ := plen kp11
      refine ⟨_, rfl, _, rfl, ?_⟩
      refine rd_slA ht2 fun t4 H9 kp12 ht4 => ?_
      replace ht4 : H9 t4 = some (pV (W2, r2)) := ht4
      have kp13 := kp11.trans kp12
      have er3 : ((wins n A).map V.int)[0]? = some (V.int r2) := by
        rw [List.getElem?_map, er2]
        rfl
      refine ⟨_, rfl, wa, _, _, _, rfl, rfl, SqT.of (kp12.tup ha2), atI_nat (j := 0) rfl, _, _, rfl, rfl, _, _, rfl, rfl, .inl ⟨by decide, by decide⟩, _, rfl, ta, _, _, _, rfl, rfl, SqT.of (kp12.tup hta8), atI_nat (j := 0) er3, by rw [sizeLine_eq]; show 2 ≤ 16777216; decide, fun t5 nt5 => ?_⟩
      have k5 := Kp.upd (o := pV (3 * (n - 1), r2)) nt5
      refine ⟨R8.prD (W2, r2), R8.prD (3 * (n - 1), r2), dp_pair (k5.tup ht4), dp_pair upd_same, R8.prD_shaped _, R8.prD_shaped _, _, rfl, ?_⟩
      rw [R8.prD_eqv, decide_eq_true (show (W2, r2) = (3 * (n - 1), r2) by rw [eW2])]
      have kp14 := kp13.trans k5
      have kt : Kp H4 (upd H9 t5 (pV (3 * (n - 1), r2))) := (kp10'.trans kp12).trans k5
      have hta9 := k5.tup (kp12.tup hta8)
      generalize upd H9 t5 (pV (3 * (n - 1), r2)) = H10 at kp14 kt hta9 ⊢
      clear k5 hta8 ht8 hla8 kp13 kp12 ht2
      refine iteF ⟨_, rfl, t, _, _, _, rfl, rfl, SqT.of (kt.tup ht), atI_nat (j := 1) rfl, _, rfl, ta, _, rfl, .inr (SqT.of hta9), rfl, int_flat _, _, rfl, ?_⟩
      have q1 : (if true = true then !inV (V.int r) ((wins n A).map V.int) else inV (V.int r) ((wins n A).map V.int)) = false := by
        show (!inV (V.int r) ((wins n A).map V.int)) = false
        rw [int_in, decide_eq_true B.best.win]
        rfl
      rw [q1]
      refine iteF ?_
      refine ⟨_, rfl, ta, rfl, ⟨_, SqT.of hta9⟩, ?_⟩
      refine for_it walk_tup (fun i σ H' => ∃ y7 y8, σ = [some (.ref sc), some (.ref ra), some (.ref wa), some (.ref pa), some (.ref t), some (.ref ta), some (.ref t2), y7, y8, none, none] ∧ Kp H10 H') ⟨_, _, rfl, Kp.refl _⟩ (fun i σ H' _ ⟨_, _, _, kp⟩ => SqT.of (kp.tup hta9)) ?_ ?_
      · rintro i x σ H11 H12 hi ⟨y7, y8, rfl, kpl⟩ ⟨rfl, hx⟩
        rw [List.getElem?_map] at hx
        obtain ⟨x1, hx1, rfl⟩ := Option.map_eq_some_iff.mp hx
        have mx := List.mem_of_getElem? hx1
        obtain ⟨hx1n, hx1w⟩ := mem_wins.mp mx
        have kp15 := kp14.trans kpl
        refine ⟨_, rfl, _, rfl, _, rfl, wa, pa, n, x1, A, p, rfl, hw3.kp kp15, Wb, kp15.tup hpa, po, hx1n.1, hx1n.2, hx1w, tb3.kp kp15, fun t6 la6 H13 W6 T6 kp16 ht6 O6 => ?_⟩
        refine ⟨t6, _, _, _, rfl, rfl, SqT.of ht6, atI_nat (j := 0) rfl, ?_⟩
        have kp17 := kpl.trans kp16
        have htx := (kt.trans kp17).tup ht
        have hle := B.best.least x1 mx W6 T6 O6
        refine ⟨_, rfl, _, rfl, t, _, _, _, rfl, rfl, SqT.of htx, atI_nat (j := 0) rfl, _, _, rfl, rfl, _, rfl, ?_⟩
        rw [decide_eq_false (show ¬ W6 < W by omega)]
        refine iteF ⟨_, rfl, _, rfl, t, _, _, _, rfl, rfl, SqT.of htx, atI_nat (j := 0) rfl, rfl, _, rfl, ?_⟩
        by_cases eW : W6 = W
        · rw [decide_eq_true (show V.int W6 = V.int W by rw [eW])]
          refine iteT ⟨_, rfl, _, rfl, t, _, _, _, rfl, rfl, SqT.of htx, atI_nat (j := 1) rfl, _, _, rfl, rfl, _, rfl, ?_⟩
          rw [decide_eq_false (show ¬ x1 < r from fun z => by have := hle.2 z; omega)]
          exact iteF ⟨_, _, rfl, kp17⟩
        · rw [decide_eq_false (fun z => eW (V.int.inj z))]
          exact iteF (iteF ⟨_, _, rfl, kp17⟩)
      · rintro σ H11 ⟨y7, y8, rfl, kpl⟩
        have kp15 := kp14.trans kpl
        refine ⟨_, rfl, pa, rfl, ⟨_, SqT.of (kp15.tup hpa)⟩, fun D2 nD2 => ?_⟩
        refine lc_it walk_tup (fun j H12 => Kp H11 H12 ∧ H12 D2 = some (.lst (List.map V.int ((p.take j).map fun x => x + 4)))) ⟨Kp.upd nD2, upd_same⟩ (fun j H12 _ ⟨kp, _⟩ => SqT.of ((kp15.trans kp).tup hpa)) ?_ ?_
        · rintro j x H12 H13 hj ⟨kpm, hD2⟩ ⟨rfl, hx⟩
          rw [List.getElem?_map] at hx
          obtain ⟨x1, hx1, rfl⟩ := Option.map_eq_some_iff.mp hx
          refine ⟨rfl, ?_⟩
          unfold tYes
          refine iteT ⟨_, rfl, _, _, rfl, rfl, _, hD2, ?_, kpm.mut nD2, ?_⟩
          · rw [List.length_map, List.length_map, List.length_take, sizeLine_eq]
            rw [List.length_map, po.len] at hj
            omega
          · rw [upd_same, List.take_add_one, hx1, List.map_append, List.map_append]
            rfl
        rintro H12 ⟨kpm, hD2⟩
        rw [List.length_map, List.take_length] at hD2
        refine .inl ⟨D2, _, rfl, SqL.of hD2, fun pb npb => ?_⟩
        have kp16 := (kp15.trans kpm).new (o := .tup (List.map V.int (p.map fun x => x + 4))) npb
        have kt2 := (kt.trans (kpl.trans kpm)).new (o := .tup (List.map V.int (p.map fun x => x + 4))) npb
        have hpb : upd H12 pb (.tup (List.map V.int (p.map fun x => x + 4))) pb = some (.tup (List.map V.int (p.map fun x => x + 4))) := upd_same
        generalize upd H12 pb (.tup (List.map V.int (p.map fun x => x + 4))) = H13 at kp16 kt2 hpb ⊢
        clear hD2 npb nD2
        have po4 : PrOk A (p.map fun x => x + 4) := ⟨by rw [List.length_map]; exact po.len, fun x hx => by
          obtain ⟨z, hz, rfl⟩ := List.mem_map.mp hx
          have := prng z hz
          omega⟩
        refine ⟨_, rfl, _, rfl, wa, pb, n, A, _, rfl, hw3.kp kp16, Wb, hpb, po4, tb3.kp kp16, fun z => absurd z hne, fun t7 la7 H14 W7 r7 L7 kp17 ht7 hla7 B7 => ?_⟩
        refine ⟨_, rfl, ?_⟩
        refine rd_slA ht7 fun t8 H15 kp18 ht8 => ?_
        replace ht8 : H15 t8 = some (pV (W7, r7)) := ht8
        have kp19 := kp16.trans (kp17.trans kp18)
        have kt3 := kt2.trans (kp17.trans kp18)
        obtain ⟨b3, ps3, ha3, hA3⟩ := plen kp19
        obtain ⟨eW7, er7⟩ := Best.more (c := 4) (fun k hk => by
          have e := K84.some_getD (l := p) (k := k) (by rw [po.len]; exact hk)
          rw [List.getD_eq_getElem?_getD, List.getElem?_map, e]
          rfl) B.best B7.best (fun s hs z hz => by
          rcases hz with rfl | rfl
          · exact B.all s hs
          · exact B7.all s hs)
        refine ⟨_, rfl, t, _, _, _, rfl, rfl, SqT.of (kt3.tup ht), atI_nat (j := 0) rfl, _, rfl, wa, _, _, _, rfl, rfl, SqT.of ha3, atI_nat (j := 0) rfl, _, _, rfl, rfl, _, _, rfl, rfl, .inl ⟨by decide, by decide⟩, _, _, rfl, rfl, ?_⟩
        refine ⟨_, rfl, t, _, _, _, rfl, rfl, SqT.of (kt3.tup ht), atI_nat (j := 1) rfl, by rw [sizeLine_eq]; show 2 ≤ 16777216; decide, fun t9 nt9 => ?_⟩
        have k9 := Kp.upd (o := pV (W + 4 * (n - 1), r)) nt9
        refine ⟨R8.prD (W7, r7), R8.prD (W + 4 * (n - 1), r), dp_pair (k9.tup ht8), dp_pair upd_same, R8.prD_shaped _, R8.prD_shaped _, _, rfl, ?_⟩
        rw [R8.prD_eqv, decide_eq_true (show (W7, r7) = (W + 4 * (n - 1), r) by rw [eW7, er7])]
        have kp20 := kp19.trans k9
        have kt4 := kt3.trans k9
        generalize upd H15 t9 (pV (W + 4 * (n - 1), r)) = H16 at kp20 kt4 ⊢
        refine iteF ?_
        refine ⟨_, rfl, _, rfl, _, rfl, wa, pa, _, n, A, p, rfl, hw3.kp kp20, Wb, kp20.tup hpa, po, tb3.kp kp20, .inl ⟨t, la, W, r, L, rfl, kt4.tup ht, kt4.tup hla, B.best, fun H17 kp21 => ?_⟩⟩
        have kp22 := kp20.trans kp21
        refine ⟨true, true, rfl, rfl, _, rfl, iteT ?_⟩
        exact ⟨_, rfl, _, rfl, wa, pa, _, n, A, p, rfl, hw3.kp kp22, Wb, kp22.tup hpa, po, tb3.kp kp22, .inr ⟨rfl, hne, fun H18 kp23 => ⟨false, false, rfl, rfl, q H18⟩⟩⟩
end
end B84
/-! The head: what stands behind the top. -/
namespace B84
open PySem PySem.Spec PyProof.Rows L2
abbrev dOf (at_ x : Str) (st : Stmt) : He.DefD := ⟨(at_, none), x, x, defArgs st, defBody st, defScope st, [], []⟩
def fnA : List He.DefD := [
dOf "is_in" "is_in" sIsIn,
  dOf "is_arc" "is_arc" sIsArc,
  dOf "need_web" "need_web" sNeedWeb,
  dOf "is_log" "is_log" sIsLog,
  dOf "need_person" "need_person" sNeedPerson,
  dOf "people" "people" sPeople,
  dOf "taken" "taken" sTaken,
  dOf "behind" "behind" sBehind,
  dOf "hearers" "hearers" sHearers,
  dOf "winners_of" "winners_of" sWinnersOf,
  dOf "winners" "winners" sWinners,
  dOf "need_prices_cheapest" "need_prices" sNeedPc,
  dOf "reaching" "reaching" sReaching]
def fnB : List He.DefD := [
dOf "raised" "raised" sRaised,
  dOf "chosen" "chosen" sChosen,
  dOf "in_order" "in_order" sInOrder,
  dOf "best_of" "best_of" sBestOf,
  dOf "cheap_win" "cheap_win" sCheapWin,
  dOf "need_prices_groups" "need_prices" sNeedPg,
  dOf "agreement_of" "agreement_of" sAgree,
  dOf "cheap_agreement" "cheap_agreement" sCheapAg,
  dOf "shows_agreement" "shows_agreement" sShows,
  dOf "_law_taken" "_law_taken" sLtaken,
  dOf "_law_web" "_law_web" sLweb,
  dOf "law" "law" sLaw]
abbrev fn84 : List He.DefD := fnA ++ fnB
def faA : List He.Fa := [.glo "is_in", .glo "is_arc", .glo "need_web", .glo "is_log", .glo "need_person", .glo "people", .glo "taken", .glo "behind", .glo "hearers", .glo "winners_of", .glo "winners", .glo "need_prices_cheapest", .glo "reaching", .glo "raised", .glo "chosen", .glo "in_order", .glo "best_of", .glo "cheap_win", .glo "need_prices_groups", .glo "agreement_of", .glo "cheap_agreement", .glo "shows_agreement", .glo "_law_taken", .glo "_law_web", .glo "law"]
def faB : List He.Fa := [.free "isinstance", .free "int", .free "bool", .free "tuple", .free "len", .free "all", .free "list", .free "enumerate", .free "range", .free "sorted", .free "min", .free "sum", .int "MOST_PEOPLE" 6, .int "MOST_ARCS" 12, .int "MOST_LOG" 60, .int "MOST_PRICE" 1000]
abbrev fa84 : List He.Fa := faA ++ faB
def tf84 : List He.Defn := [("is_arc", none), ("is_log", none), ("need_prices_cheapest", none), ("need_prices_groups", none), ("best_of", none), ("shows_agreement", none)]
def loA : List Str := ["BellError", "BadPerson", "BadWeb", "BadPrices", "is_in", "MOST_PEOPLE", "MOST_ARCS", "MOST_LOG", "is_arc", "need_web", "is_log", "need_person", "people", "taken", "behind", "hearers", "winners_of", "winners", "MOST_PRICE", "need_prices"]
def loB : List Str := ["need_prices_cheapest", "reaching", "raised", "chosen", "in_order", "best_of", "cheap_win", "need_prices_groups", "agreement_of", "cheap_agreement", "shows_agreement", "_law_taken", "_law_pick", "_law_alike", "_law_web", "_law_log", "_law_taken_over", "_law_done", "_law_people", "_law_heard"]
abbrev lo84 : List Str := loA ++ loB
abbrev R84 : PySem.W.OpenRow := PySem.W.OpenLaw.row PySem.Challenge.rw_bellcopies_k84_across_agreements
abbrev hk84 : PySem.W.Hook := He.hookX 4 fa84 fn84 [] tf84 fun _ => true
def ob84 (s : PySem.W.SharedT) : He.AlX := He.obsX 4 fa84 fn84 [] tf84 (fun _ => true) (HandSHeadRun.getT s)
theorem ob84_eq (s : PySem.W.SharedT) : ob84 s = hk84.obs s.abs := He.obsX_eq (HandSHeadRun.getT_eq s)
theorem run84 (w : World) : HandSHeadRun.RunEq R84 (PySem.W.view R84.prog [48]) hk84 ob84 3000 lo84 w := by
  intro os
  kernel_rfl
end B84
/-! The end. -/
namespace B84
open PySem PySem.Spec PyProof.Rows L2 K84
theorem funOf {K : PySem.W.Frag} {x : Str} {st : Stmt} {f : Addr} {fd : FuncData} (D : FunD K x x (defArgs st) (defBody st) (defScope st) [] [] f fd) : Fun K x x st f fd := by
  obtain ⟨oc, od, dV, kV, doc, pm, an, cdv, ct, osl, e, lk, hcd, hD, _⟩ := D.ex
  rcases hD with ⟨_, hd⟩ | ⟨z, _⟩
  · subst hd
    exact ⟨⟨oc, od, kV, doc, pm, an, cdv, ct, osl, e, lk, hcd⟩, D.kp⟩
  · exact absurd rfl z
theorem fun_code {K : PySem.W.Frag} {x y : Str} {st : Stmt} {fd : FuncData} (F : Fun K x x st (He.fAd K (y, none)) fd) : fd.code = .ref (He.codeOf K (y, none)) := by
  obtain ⟨oc, od, kV, doc, pm, an, cdv, ct, osl, rfl, lk, hcd⟩ := F.ex
  obtain ⟨c, rfl⟩ := He.codeIn_ref hcd
  have := He.codeOf_eq lk (c := c) rfl
  rw [this]
theorem facts84 {w : World} {h : Heap} {mg : Str → Option Value} {fa : Addr} {K : PySem.W.Frag} (X : K.In h) (G : h.Ns mainGlobals mg) (hfa : mg "law" = some (.ref fa)) (c : He.SaysX fa84 fn84 [] tf84 (fun _ => true) w h K) : LamX.LawAtS PySem.Challenge.rw_bellcopies_k84_across_agreements w K CX0 7 63 "_law_script" mg fa h := by
  obtain ⟨fd0, D0⟩ := c.t.d.def_ 0 (d := dOf "is_in" "is_in" sIsIn) rfl
  have F0 : Fun K "is_in" "is_in" sIsIn (He.fAd K ("is_in", none)) fd0 := funOf D0
  have b0 : L2.Binds K fd0 ["value", "least", "most"] [] := F0.binds fun _ _ _ _ _ _ us hl => match us, hl with | [_, _, _], _ => rfl
  have g0 : mg "is_in" = some (.ref (He.fAd K ("is_in", none))) := He.glo_ok X G (c.t.d.fact 0 (f := .glo "is_in") rfl)
  obtain ⟨fd1, D1⟩ := c.t.d.def_ 1 (d := dOf "is_arc" "is_arc" sIsArc) rfl
  have F1 : Fun K "is_arc" "is_arc" sIsArc (He.fAd K ("is_arc", none)) fd1 := funOf D1
  have b1 : L2.Binds K fd1 ["size", "value"] [] := F1.binds fun _ _ _ _ _ _ us hl => match us, hl with | [_, _], _ => rfl
  have g1 : mg "is_arc" = some (.ref (He.fAd K ("is_arc", none))) := He.glo_ok X G (c.t.d.fact 1 (f := .glo "is_arc") rfl)
  obtain ⟨fd2, D2⟩ := c.t.d.def_ 2 (d := dOf "need_web" "need_web" sNeedWeb) rfl
  have F2 : Fun K "need_web" "need_web" sNeedWeb (He.fAd K ("need_web", none)) fd2 := funOf D2
  have b2 : L2.Binds K fd2 ["web"] [] := F2.binds fun _ _ _ _ _ _ us hl => match us, hl with | [_], _ => rfl
  have g2 : mg "need_web" = some (.ref (He.fAd K ("need_web", none))) := He.glo_ok X G (c.t.d.fact 2 (f := .glo "need_web") rfl)
  obtain ⟨fd3, D3⟩ := c.t.d.def_ 3 (d := dOf "is_log" "is_log" sIsLog) rfl
  have F3 : Fun K "is_log" "is_log" sIsLog (He.fAd K ("is_log", none)) fd3 := funOf D3
  have b3 : L2.Binds K fd3 ["web", "value"] [] := F3.binds fun _ _ _ _ _ _ us hl => match us, hl with | [_, _], _ => rfl
  have g3 : mg "is_log" = some (.ref (He.fAd K ("is_log", none))) := He.glo_ok X G (c.t.d.fact 3 (f := .glo "is_log") rfl)
  obtain ⟨fd4, D4⟩ := c.t.d.def_ 4 (d := dOf "need_person" "need_person" sNeedPerson) rfl
  have F4 : Fun K "need_person" "need_person" sNeedPerson (He.fAd K ("need_person", none)) fd4 := funOf D4
  have b4 : L2.Binds K fd4 ["web", "person"] [] := F4.binds fun _ _ _ _ _ _ us hl => match us, hl with | [_, _], _ => rfl
  have g4 : mg "need_person" = some (.ref (He.fAd K ("need_person", none))) := He.glo_ok X G (c.t.d.fact 4 (f := .glo "need_person") rfl)
  obtain ⟨fd5, D5⟩ := c.t.d.def_ 5 (d := dOf "people" "people" sPeople) rfl
  have F5 : Fun K "people" "people" sPeople (He.fAd K ("people", none)) fd5 := funOf D5
  have b5 : L2.Binds K fd5 ["web"] [] := F5.binds fun _ _ _ _ _ _ us hl => match us, hl with | [_], _ => rfl
  have g5 : mg "people" = some (.ref (He.fAd K ("people", none))) := He.glo_ok X G (c.t.d.fact 5 (f := .glo "people") rfl)
  obtain ⟨fd6, D6⟩ := c.t.d.def_ 6 (d := dOf "taken" "taken" sTaken) rfl
  have F6 : Fun K "taken" "taken" sTaken (He.fAd K ("taken", none)) fd6 := funOf D6
  have b6 : L2.Binds K fd6 ["web", "some", "index"] [] := F6.binds fun _ _ _ _ _ _ us hl => match us, hl with | [_, _, _], _ => rfl
  have g6 : mg "taken" = some (.ref (He.fAd K ("taken", none))) := He.glo_ok X G (c.t.d.fact 6 (f := .glo "taken") rfl)
  obtain ⟨fd7, D7⟩ := c.t.d.def_ 7 (d := dOf "behind" "behind" sBehind) rfl
  have F7 : Fun K "behind" "behind" sBehind (He.fAd K ("behind", none)) fd7 := funOf D7
  have b7 : L2.Binds K fd7 ["web", "some", "log"] [] := F7.binds fun _ _ _ _ _ _ us hl => match us, hl with | [_, _, _], _ => rfl
  have g7 : mg "behind" = some (.ref (He.fAd K ("behind", none))) := He.glo_ok X G (c.t.d.fact 7 (f := .glo "behind") rfl)
  obtain ⟨fd8, D8⟩ := c.t.d.def_ 8 (d := dOf "hearers" "hearers" sHearers) rfl
  have F8 : Fun K "hearers" "hearers" sHearers (He.fAd K ("hearers", none)) fd8 := funOf D8
  have b8 : L2.Binds K fd8 ["web", "begin"] [] := F8.binds fun _ _ _ _ _ _ us hl => match us, hl with | [_, _], _ => rfl
  have g8 : mg "hearers" = some (.ref (He.fAd K ("hearers", none))) := He.glo_ok X G (c.t.d.fact 8 (f := .glo "hearers") rfl)
  obtain ⟨fd9, D9⟩ := c.t.d.def_ 9 (d := dOf "winners_of" "winners_of" sWinnersOf) rfl
  have F9 : Fun K "winners_of" "winners_of" sWinnersOf (He.fAd K ("winners_of", none)) fd9 := funOf D9
  have b9 : L2.Binds K fd9 ["web"] [] := F9.binds fun _ _ _ _ _ _ us hl => match us, hl with | [_], _ => rfl
  have g9 : mg "winners_of" = some (.ref (He.fAd K ("winners_of", none))) := He.glo_ok X G (c.t.d.fact 9 (f := .glo "winners_of") rfl)
  obtain ⟨fd10, D10⟩ := c.t.d.def_ 10 (d := dOf "winners" "winners" sWinners) rfl
  have F10 : Fun K "winners" "winners" sWinners (He.fAd K ("winners", none)) fd10 := funOf D10
  have b10 : L2.Binds K fd10 ["web"] [] := F10.binds fun _ _ _ _ _ _ us hl => match us, hl with | [_], _ => rfl
  have g10 : mg "winners" = some (.ref (He.fAd K ("winners", none))) := He.glo_ok X G (c.t.d.fact 10 (f := .glo "winners") rfl)
  obtain ⟨fd11, D11⟩ := c.t.d.def_ 11 (d := dOf "need_prices_cheapest" "need_prices" sNeedPc) rfl
  have F11 : Fun K "need_prices" "need_prices" sNeedPc (He.fAd K ("need_prices_cheapest", none)) fd11 := funOf D11
  have b11 : L2.Binds K fd11 ["web", "prices", "person"] [] := F11.binds fun _ _ _ _ _ _ us hl => match us, hl with | [_, _, _], _ => rfl
  have g11 : mg "need_prices_cheapest" = some (.ref (He.fAd K ("need_prices_cheapest", none))) := He.glo_ok X G (c.t.d.fact 11 (f := .glo "need_prices_cheapest") rfl)
  obtain ⟨fd12, D12⟩ := c.t.d.def_ 12 (d := dOf "reaching" "reaching" sReaching) rfl
  have F12 : Fun K "reaching" "reaching" sReaching (He.fAd K ("reaching", none)) fd12 := funOf D12
  have b12 : L2.Binds K fd12 ["arcs", "rest", "goal"] [] := F12.binds fun _ _ _ _ _ _ us hl => match us, hl with | [_, _, _], _ => rfl
  have g12 : mg "reaching" = some (.ref (He.fAd K ("reaching", none))) := He.glo_ok X G (c.t.d.fact 12 (f := .glo "reaching") rfl)
  obtain ⟨fd13, D13⟩ := c.t.d.def_ 13 (d := dOf "raised" "raised" sRaised) rfl
  have F13 : Fun K "raised" "raised" sRaised (He.fAd K ("raised", none)) fd13 := funOf D13
  have b13 : L2.Binds K fd13 ["web", "prices", "person"] [] := F13.binds fun _ _ _ _ _ _ us hl => match us, hl with | [_, _, _], _ => rfl
  have g13 : mg "raised" = some (.ref (He.fAd K ("raised", none))) := He.glo_ok X G (c.t.d.fact 13 (f := .glo "raised") rfl)
  obtain ⟨fd14, D14⟩ := c.t.d.def_ 14 (d := dOf "chosen" "chosen" sChosen) rfl
  have F14 : Fun K "chosen" "chosen" sChosen (He.fAd K ("chosen", none)) fd14 := funOf D14
  have b14 : L2.Binds K fd14 ["web", "person", "sets", "paid"] [] := F14.binds fun _ _ _ _ _ _ us hl => match us, hl with | [_, _, _, _], _ => rfl
  have g14 : mg "chosen" = some (.ref (He.fAd K ("chosen", none))) := He.glo_ok X G (c.t.d.fact 14 (f := .glo "chosen") rfl)
  obtain ⟨fd15, D15⟩ := c.t.d.def_ 15 (d := dOf "in_order" "in_order" sInOrder) rfl
  have F15 : Fun K "in_order" "in_order" sInOrder (He.fAd K ("in_order", none)) fd15 := funOf D15
  have b15 : L2.Binds K fd15 ["web", "person", "kept"] [] := F15.binds fun _ _ _ _ _ _ us hl => match us, hl with | [_, _, _], _ => rfl
  have g15 : mg "in_order" = some (.ref (He.fAd K ("in_order", none))) := He.glo_ok X G (c.t.d.fact 15 (f := .glo "in_order") rfl)
  obtain ⟨fd16, D16⟩ := c.t.d.def_ 16 (d := dOf "best_of" "best_of" sBestOf) rfl
  have F16 : Fun K "best_of" "best_of" sBestOf (He.fAd K ("best_of", none)) fd16 := funOf D16
  have b16 : L2.Binds K fd16 ["web", "prices", "person"] [] := F16.binds fun _ _ _ _ _ _ us hl => match us, hl with | [_, _, _], _ => rfl
  have g16 : mg "best_of" = some (.ref (He.fAd K ("best_of", none))) := He.glo_ok X G (c.t.d.fact 16 (f := .glo "best_of") rfl)
  obtain ⟨fd17, D17⟩ := c.t.d.def_ 17 (d := dOf "cheap_win" "cheap_win" sCheapWin) rfl
  have F17 : Fun K "cheap_win" "cheap_win" sCheapWin (He.fAd K ("cheap_win", none)) fd17 := funOf D17
  have b17 : L2.Binds K fd17 ["web", "prices", "person"] [] := F17.binds fun _ _ _ _ _ _ us hl => match us, hl with | [_, _, _], _ => rfl
  have g17 : mg "cheap_win" = some (.ref (He.fAd K ("cheap_win", none))) := He.glo_ok X G (c.t.d.fact 17 (f := .glo "cheap_win") rfl)
  obtain ⟨fd18, D18⟩ := c.t.d.def_ 18 (d := dOf "need_prices_groups" "need_prices" sNeedPg) rfl
  have F18 : Fun K "need_prices" "need_prices" sNeedPg (He.fAd K ("need_prices_groups", none)) fd18 := funOf D18
  have b18 : L2.Binds K fd18 ["web", "prices"] [] := F18.binds fun _ _ _ _ _ _ us hl => match us, hl with | [_, _], _ => rfl
  have g18 : mg "need_prices_groups" = some (.ref (He.fAd K ("need_prices_groups", none))) := He.glo_ok X G (c.t.d.fact 18 (f := .glo "need_prices_groups") rfl)
  obtain ⟨fd19, D19⟩ := c.t.d.def_ 19 (d := dOf "agreement_of" "agreement_of" sAgree) rfl
  have F19 : Fun K "agreement_of" "agreement_of" sAgree (He.fAd K ("agreement_of", none)) fd19 := funOf D19
  have b19 : L2.Binds K fd19 ["web", "prices"] [] := F19.binds fun _ _ _ _ _ _ us hl => match us, hl with | [_, _], _ => rfl
  have g19 : mg "agreement_of" = some (.ref (He.fAd K ("agreement_of", none))) := He.glo_ok X G (c.t.d.fact 19 (f := .glo "agreement_of") rfl)
  obtain ⟨fd20, D20⟩ := c.t.d.def_ 20 (d := dOf "cheap_agreement" "cheap_agreement" sCheapAg) rfl
  have F20 : Fun K "cheap_agreement" "cheap_agreement" sCheapAg (He.fAd K ("cheap_agreement", none)) fd20 := funOf D20
  have b20 : L2.Binds K fd20 ["web", "prices"] [] := F20.binds fun _ _ _ _ _ _ us hl => match us, hl with | [_, _], _ => rfl
  have g20 : mg "cheap_agreement" = some (.ref (He.fAd K ("cheap_agreement", none))) := He.glo_ok X G (c.t.d.fact 20 (f := .glo "cheap_agreement") rfl)
  obtain ⟨fd21, D21⟩ := c.t.d.def_ 21 (d := dOf "shows_agreement" "shows_agreement" sShows) rfl
  have F21 : Fun K "shows_agreement" "shows_agreement" sShows (He.fAd K ("shows_agreement", none)) fd21 := funOf D21
  have b21 : L2.Binds K fd21 ["web", "prices", "value"] [] := F21.binds fun _ _ _ _ _ _ us hl => match us, hl with | [_, _, _], _ => rfl
  have g21 : mg "shows_agreement" = some (.ref (He.fAd K ("shows_agreement", none))) := He.glo_ok X G (c.t.d.fact 21 (f := .glo "shows_agreement") rfl)
  obtain ⟨fd22, D22⟩ := c.t.d.def_ 22 (d := dOf "_law_taken" "_law_taken" sLtaken) rfl
  have F22 : Fun K "_law_taken" "_law_taken" sLtaken (He.fAd K ("_law_taken", none)) fd22 := funOf D22
  have b22 : L2.Binds K fd22 ["_law_row", "_law_many"] [] := F22.binds fun _ _ _ _ _ _ us hl => match us, hl with | [_, _], _ => rfl
  have g22 : mg "_law_taken" = some (.ref (He.fAd K ("_law_taken", none))) := He.glo_ok X G (c.t.d.fact 22 (f := .glo "_law_taken") rfl)
  obtain ⟨fd23, D23⟩ := c.t.d.def_ 23 (d := dOf "_law_web" "_law_web" sLweb) rfl
  have F23 : Fun K "_law_web" "_law_web" sLweb (He.fAd K ("_law_web", none)) fd23 := funOf D23
  have b23 : L2.Binds K fd23 ["_law_row", "_law_most"] [] := F23.binds fun _ _ _ _ _ _ us hl => match us, hl with | [_, _], _ => rfl
  have g23 : mg "_law_web" = some (.ref (He.fAd K ("_law_web", none))) := He.glo_ok X G (c.t.d.fact 23 (f := .glo "_law_web") rfl)
  obtain ⟨fd24, D24⟩ := c.t.d.def_ 24 (d := dOf "law" "law" sLaw) rfl
  have F24 : Fun K "law" "law" sLaw (He.fAd K ("law", none)) fd24 := funOf D24
  have g24 : mg "law" = some (.ref (He.fAd K ("law", none))) := He.glo_ok X G (c.t.d.fact 24 (f := .glo "law") rfl)
  have M : Free mg := ⟨He.free_ok X G (c.t.d.fact 25 (f := .free "isinstance") rfl), He.free_ok X G (c.t.d.fact 26 (f := .free "int") rfl), He.free_ok X G (c.t.d.fact 27 (f := .free "bool") rfl), He.free_ok X G (c.t.d.fact 28 (f := .free "tuple") rfl), He.free_ok X G (c.t.d.fact 29 (f := .free "len") rfl), He.free_ok X G (c.t.d.fact 30 (f := .free "all") rfl), He.free_ok X G (c.t.d.fact 31 (f := .free "list") rfl), He.free_ok X G (c.t.d.fact 32 (f := .free "enumerate") rfl), He.free_ok X G (c.t.d.fact 33 (f := .free "range") rfl), He.free_ok X G (c.t.d.fact 34 (f := .free "sorted") rfl), He.free_ok X G (c.t.d.fact 35 (f := .free "min") rfl), He.free_ok X G (c.t.d.fact 36 (f := .free "sum") rfl), He.int_ok X G (c.t.d.fact 37 (f := .int "MOST_PEOPLE" 6) rfl), He.int_ok X G (c.t.d.fact 38 (f := .int "MOST_ARCS" 12) rfl), He.int_ok X G (c.t.d.fact 39 (f := .int "MOST_LOG" 60) rfl), He.int_ok X G (c.t.d.fact 40 (f := .int "MOST_PRICE" 1000) rfl)⟩
  have J : IsIn K mg := ⟨_, _, g0, F0⟩
  have tsm : ∀ p, p ∈ tf84 → (He.cT K p).2 ∈ (tf84.map (He.cT K)).map (·.2) := fun p hp => List.mem_map.mpr ⟨_, List.mem_map.mpr ⟨p, hp, rfl⟩, rfl⟩
  have all : ∀ {Q : Addr × Addr → Prop}, (∀ p, p ∈ tf84 → Q (He.cT K p)) → ∀ q, q ∈ tf84.map (He.cT K) → Q q := fun h q hq => by
    obtain ⟨p, hp, rfl⟩ := List.mem_map.mp hq
    exact h p hp
  cases hfa.symm.trans g24
  have bl := FunD.bindsA (ps := ["_law_script"]) D24 fun _ _ _ _ _ _ us hl => match us, hl with | [_], _ => rfl
  refine ⟨fd24, tf84.map (He.cT K), spLaw K ((tf84.map (He.cT K)).map (·.2)), all c.empty, all c.out, all fun p hp => PySem.W.codeHd_of_K X (c.hd p hp), fun s v => bl s [v] rfl, fun H a ns hl _ hT hS => ⟨a, ns, rfl, hS, hl, fun T hm => ?_, fun _ => rfl⟩, fun base XB GB TB => ?_⟩
  · obtain ⟨q, hq, rfl⟩ := List.mem_map.mp hm
    exact ⟨#[], hT q hq, trivial⟩
  generalize hts : (tf84.map (He.cT K)).map (·.2) = ts at tsm ⊢
  have tb : ∀ p, p ∈ tf84 → GxR.TabB base mg (He.codeOf K p) (He.tabOf K (He.codeOf K p)) := fun p hp => let t := TB _ (List.mem_map.mpr ⟨p, hp, rfl⟩); ⟨t.code, t.bm, t.gP⟩
  have C0 : Cal (PySem.Challenge.rw_bellcopies_k84_across_agreements).prog w K mg base "is_in" 1 ["value", "least", "most"] spIsIn := ⟨_, _, g0, F0.kp, b0, ok_isin (k := 0) F0 M⟩
  have C1 : Cal (PySem.Challenge.rw_bellcopies_k84_across_agreements).prog w K mg base "is_arc" 3 ["size", "value"] (spIsArc ts) := ⟨_, _, g1, F1.kp, b1, ok_isarc (k := 0) F1 (fun_code F1) (tb ("is_arc", none) (by decide)) (tsm ("is_arc", none) (by decide)) M J⟩
  have C3 : Cal (PySem.Challenge.rw_bellcopies_k84_across_agreements).prog w K mg base "is_log" 3 ["web", "value"] (spIsLog ts) := ⟨_, _, g3, F3.kp, b3, ok_islog (k := 0) F3 (fun_code F3) (tb ("is_log", none) (by decide)) (tsm ("is_log", none) (by decide)) M J⟩
  have C4 : Cal (PySem.Challenge.rw_bellcopies_k84_across_agreements).prog w K mg base "need_person" 2 ["web", "person"] spNeedPerson := ⟨_, _, g4, F4.kp, b4, ok_needperson (k := 1) F4 (C0.mono (by decide : _ ≤ 1))⟩
  have C5 : Cal (PySem.Challenge.rw_bellcopies_k84_across_agreements).prog w K mg base "people" 1 ["web"] spPeople := ⟨_, _, g5, F5.kp, b5, ok_people (k := 0) F5 M⟩
  have C6 : Cal (PySem.Challenge.rw_bellcopies_k84_across_agreements).prog w K mg base "taken" 1 ["web", "some", "index"] spTaken := ⟨_, _, g6, F6.kp, b6, ok_taken (k := 0) F6 M⟩
  have C7 : Cal (PySem.Challenge.rw_bellcopies_k84_across_agreements).prog w K mg base "behind" 2 ["web", "some", "log"] spBehind := ⟨_, _, g7, F7.kp, b7, ok_behind (k := 1) F7 (C6.mono (by decide : _ ≤ 1))⟩
  have C8 : Cal (PySem.Challenge.rw_bellcopies_k84_across_agreements).prog w K mg base "hearers" 1 ["web", "begin"] spHearers := ⟨_, _, g8, F8.kp, b8, ok_hearers (k := 0) F8 M⟩
  have C2 : Cal (PySem.Challenge.rw_bellcopies_k84_across_agreements).prog w K mg base "need_web" 4 ["web"] (spNeedWeb ts) := ⟨_, _, g2, F2.kp, b2, ok_needweb (k := 2) F2 M (C0.mono (by decide : _ ≤ 3)) (C1.mono (by decide : _ ≤ 3))⟩
  have C9 : Cal (PySem.Challenge.rw_bellcopies_k84_across_agreements).prog w K mg base "winners_of" 2 ["web"] spWinnersOf := ⟨_, _, g9, F9.kp, b9, ok_winnersof (k := 1) F9 M (C5.mono (by decide : _ ≤ 1)) (C8.mono (by decide : _ ≤ 1))⟩
  have C10 : Cal (PySem.Challenge.rw_bellcopies_k84_across_agreements).prog w K mg base "winners" 5 ["web"] (spWinners ts) := ⟨_, _, g10, F10.kp, b10, ok_winners (k := 4) F10 M (C2.mono (by decide : _ ≤ 4)) (C9.mono (by decide : _ ≤ 4))⟩
  have C11 : Cal (PySem.Challenge.rw_bellcopies_k84_across_agreements).prog w K mg base "need_prices_cheapest" 5 ["web", "prices", "person"] (spNeedPc ts) := ⟨_, _, g11, F11.kp, b11, ok_needpc (k := 2) F11 (fun_code F11) (tb ("need_prices_cheapest", none) (by decide)) (tsm ("need_prices_cheapest", none) (by decide)) M J (C2.mono (by decide : _ ≤ 4)) (C4.mono (by decide : _ ≤ 4))⟩
  have C18 : Cal (PySem.Challenge.rw_bellcopies_k84_across_agreements).prog w K mg base "need_prices_groups" 5 ["web", "prices"] (spNeedPg ts) := ⟨_, _, g18, F18.kp, b18, ok_needpg (k := 2) F18 (fun_code F18) (tb ("need_prices_groups", none) (by decide)) (tsm ("need_prices_groups", none) (by decide)) M J (C2.mono (by decide : _ ≤ 4))⟩
  have C12 : Cal (PySem.Challenge.rw_bellcopies_k84_across_agreements).prog w K mg base "reaching" 1 ["arcs", "rest", "goal"] spReaching := ⟨_, _, g12, F12.kp, b12, ok_reaching (k := 0) F12 M⟩
  have C14 : Cal (PySem.Challenge.rw_bellcopies_k84_across_agreements).prog w K mg base "chosen" 2 ["web", "person", "sets", "paid"] spChosen := ⟨_, _, g14, F14.kp, b14, ok_chosen (k := 1) F14 M (C8.mono (by decide : _ ≤ 1))⟩
  have C15 : Cal (PySem.Challenge.rw_bellcopies_k84_across_agreements).prog w K mg base "in_order" 1 ["web", "person", "kept"] spInOrder := ⟨_, _, g15, F15.kp, b15, ok_inorder (k := 0) F15 M⟩
  have C13 : Cal (PySem.Challenge.rw_bellcopies_k84_across_agreements).prog w K mg base "raised" 2 ["web", "prices", "person"] spRaised := ⟨_, _, g13, F13.kp, b13, ok_raised (k := 1) F13 M (C8.mono (by decide : _ ≤ 1)) (C5.mono (by decide : _ ≤ 1)) (C12.mono (by decide : _ ≤ 1))⟩
  have C16 : Cal (PySem.Challenge.rw_bellcopies_k84_across_agreements).prog w K mg base "best_of" 3 ["web", "prices", "person"] (spBestOf ts) := ⟨_, _, g16, F16.kp, b16, ok_bestof (k := 0) F16 (fun_code F16) (tb ("best_of", none) (by decide)) (tsm ("best_of", none) (by decide)) M (C13.mono (by decide : _ ≤ 2)) (C15.mono (by decide : _ ≤ 2)) (C14.mono (by decide : _ ≤ 2))⟩
  have C17 : Cal (PySem.Challenge.rw_bellcopies_k84_across_agreements).prog w K mg base "cheap_win" 6 ["web", "prices", "person"] (spCheapWin ts) := ⟨_, _, g17, F17.kp, b17, ok_cheapwin (k := 5) F17 M (C11.mono (by decide : _ ≤ 5)) (C16.mono (by decide : _ ≤ 5))⟩
  have C19 : Cal (PySem.Challenge.rw_bellcopies_k84_across_agreements).prog w K mg base "agreement_of" 4 ["web", "prices"] (spAgree ts) := ⟨_, _, g19, F19.kp, b19, ok_agree (k := 3) F19 M (C9.mono (by decide : _ ≤ 3)) (C16.mono (by decide : _ ≤ 3))⟩
  have C20 : Cal (PySem.Challenge.rw_bellcopies_k84_across_agreements).prog w K mg base "cheap_agreement" 6 ["web", "prices"] (spAgree ts) := ⟨_, _, g20, F20.kp, b20, ok_cheapag (k := 5) F20 M (C18.mono (by decide : _ ≤ 5)) (C19.mono (by decide : _ ≤ 5))⟩
  have C21 : Cal (PySem.Challenge.rw_bellcopies_k84_across_agreements).prog w K mg base "shows_agreement" 6 ["web", "prices", "value"] (spShows ts) := ⟨_, _, g21, F21.kp, b21, ok_shows (k := 3) F21 (fun_code F21) (tb ("shows_agreement", none) (by decide)) (tsm ("shows_agreement", none) (by decide)) M (C18.mono (by decide : _ ≤ 5)) (C19.mono (by decide : _ ≤ 5)) (C3.mono (by decide : _ ≤ 5)) (C0.mono (by decide : _ ≤ 5)) (C7.mono (by decide : _ ≤ 5)) (C5.mono (by decide : _ ≤ 5))⟩
  have C22 : Cal (PySem.Challenge.rw_bellcopies_k84_across_agreements).prog w K mg base "_law_taken" 1 ["_law_row", "_law_many"] (spLtaken K) := ⟨_, _, g22, F22.kp, b22, ok_ltaken (k := 0) F22 M⟩
  have C23 : Cal (PySem.Challenge.rw_bellcopies_k84_across_agreements).prog w K mg base "_law_web" 2 ["_law_row", "_law_most"] (spLweb K) := ⟨_, _, g23, F23.kp, b23, ok_lweb (k := 1) F23 M (C22.mono (by decide : _ ≤ 1))⟩
  exact ok_law (k := 6) F24 M (C22.mono (by decide : _ ≤ 6)) (C23.mono (by decide : _ ≤ 6)) (C20.mono (by decide : _ ≤ 6)) (C10.mono (by decide : _ ≤ 6)) (C17.mono (by decide : _ ≤ 6)) (C21.mono (by decide : _ ≤ 6))
end B84
open PySem PySem.W PySem.Calls PyProof.Rows
theorem PySem.Challenge.cw_bellcopies_k84_across_agreements_holds : PySem.Challenge.rw_bellcopies_k84_across_agreements.Holds := by
  w_on; o_law
  refine HandSHeadRun.head_any (r := OpenLaw.row PySem.Challenge.rw_bellcopies_k84_across_agreements) (q := view (OpenLaw.row PySem.Challenge.rw_bellcopies_k84_across_agreements).prog [48]) (H := B84.hk84) (ob := B84.ob84) (M := 3000) (loose := B84.lo84) (d := HandSHeadRun.topDef (OpenLaw.row PySem.Challenge.rw_bellcopies_k84_across_agreements).prog 48) (kwd := []) B84.ob84_eq
    (by kernel_rfl) (fun s => by kernel_rfl) B84.run84 (by kernel_rfl) (by kernel_rfl) (by kernel_rfl) (by rfl) (by first | assumption | decide +kernel) (by decide +kernel) ⟨rfl, rfl, rfl, rfl, rfl, by decide +kernel⟩ ?hw ?hc
  case hw => w_witness2
  case hc =>
    refine LamX.walk_ofTsE (l := PySem.Challenge.rw_bellcopies_k84_across_agreements) (n := 63) (k := 7) (x := "_law_script") (CX := fun _ => L2.CX0) rfl (by decide) (by kernel_rfl) ⟨rfl, by decide, by decide⟩ ?F (fun _ _ _ _ _ z => z)
    intro w mg fa h Y G hmg0
    obtain ⟨K, KX, c⟩ := Y
    have hmg : mg ("law" : PySem.Str) = some (.ref fa) := by
      have e : (HandSHeadRun.topDef (OpenLaw.row PySem.Challenge.rw_bellcopies_k84_across_agreements).prog 48).name = ("law" : PySem.Str) := by kernel_rfl
      rw [← e]
      exact hmg0
    exact ⟨K, KX, B84.facts84 KX G hmg c⟩
