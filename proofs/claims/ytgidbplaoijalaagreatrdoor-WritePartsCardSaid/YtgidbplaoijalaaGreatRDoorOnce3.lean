/- A region that draws its order and whose operations only make blocks: one proof for each operation serves every order. -/
import Derived.Test.YtgidbplaoijalaaGreatRDoorOnce1
import Derived.Test.YtgidbplaoijalaaGreatRDoorOnce2
import Derived.Test.YtgidbplaoijalaaGreatRDoorRows
import Derived.ProofKit
import Derived.OpenShut
import Derived.ShutString
import Derived.ChangeOld
import Derived.SizedLaws
import Derived.HandedShaped
import Derived.LaidMore
import Derived.Stop.Joined
import Derived.Stop.LaidErr
import Derived.Lib.LaidTab
import Derived.Shelf.Vars
import Derived.Lib.SmallJoins
import Derived.Lib.ItoaLen

namespace Go.Proofs.YtgidbplaoijalaaGreatRDoor
set_option linter.unusedSimpArgs false
open Go.RowKit Go.Proofs.YtgidbplaoijalaaGreatRDoorW.PrintWords
set_option linter.unusedVariables false

abbrev NoS : Nat → Prop := fun _ => False

/-- What has come up so far: each has left a value in its temporary of which Pr tells; the rest of the frame is as at the start. -/
structure Up (ops : Array Oper) (a0 : Act) (w0 : World) (Pr : Nat → Value → World → Prop) (listed : Array Bool) (a : Act) (w : World) : Prop where
  lsize : listed.size = ops.size
  rest : ({ a with tmps := a0.tmps } : Act) = a0
  tsize : a.tmps.size = a0.tmps.size
  old : ∀ t : Nat, (∀ (i : Nat) (o : Oper), ops[i]? = some o → o.dst = some t → listed.getD i false = false) → a.tmps[t]? = a0.tmps[t]?
  new : ∀ (i : Nat) (o : Oper), ops[i]? = some o → listed.getD i false = true → ∃ v wi, Pr i v wi ∧ Stay wi w NoS ∧ ∀ t, o.dst = some t → a.tmps[t]? = some v
  stay : Stay w0 w NoS
  closed : ∀ (i : Nat) (o : Oper), ops[i]? = some o → listed.getD i false = true → ∀ e ∈ o.after, Region.binds .any e = true → listed.getD e.on false = true

/-- Operation number i, whenever it comes up, leaves a value of which Pr tells. -/
def UpStep (P : Program) (ops : Array Oper) (Q : Exit → Act → World → Prop) (a0 : Act) (w0 : World) (Pr : Nat → Value → World → Prop) (i : Nat) (o : Oper) : Prop :=
  ∀ listed a w, Up ops a0 w0 Pr listed a w → (∀ e ∈ o.after, Region.binds .any e = true → listed.getD e.on false = true) →
    ∀ K : Act → World → Prop, (∀ v w', Pr i v w' → Stay w w' NoS → K (a.put o.dst v) w') → o.wp P a w K Q

/-- The closed facts of a region: no guard, each waits for earlier ones alone, no two leave their values at one place. -/
def Region.tame (ops : Array Oper) (n : Nat) : Bool :=
  (List.range ops.size).all fun i => match ops[i]? with
    | none => true
    | some o => o.guard.isNone && o.after.all (fun e => !Region.binds .any e || decide (e.on < i)) && (match o.dst with
      | none => true
      | some t => decide (t < n) && (List.range ops.size).all fun j => j == i || match ops[j]? with
        | some p => p.dst != some t
        | none => true)

theorem Region.tame_spec {ops : Array Oper} {n : Nat} (h : Region.tame ops n = true) {i : Nat} {o : Oper} (hi : ops[i]? = some o) :
    o.guard = none ∧ (∀ e ∈ o.after, Region.binds .any e = true → e.on < i) ∧ (∀ t, o.dst = some t → t < n ∧ ∀ (j : Nat) (p : Oper), ops[j]? = some p → j ≠ i → p.dst ≠ some t) := by
  unfold Region.tame at h
  rw [List.all_eq_true] at h
  have h1 := h i (List.mem_range.2 (Array.getElem?_eq_some_iff.1 hi).1)
  simp only [hi, Bool.and_eq_true] at h1
  obtain ⟨⟨h1, h2⟩, h3⟩ := h1
  refine ⟨by simpa using h1, fun e he hb => ?_, fun t ht => ?_⟩
  · have := Array.all_eq_true_iff_forall_mem.1 h2 e he
    rw [hb] at this
    simpa using this
  · rw [ht] at h3
    simp only [Bool.and_eq_true, decide_eq_true_eq, List.all_eq_true] at h3
    refine ⟨h3.1, fun j p hj hne hp => ?_⟩
    have h4 := h3.2 j (List.mem_range.2 (Array.getElem?_eq_some_iff.1 hj).1)
    simp only [hj, Bool.or_eq_true, beq_iff_eq, hne, false_or] at h4
    rw [hp] at h4
    simp at h4

theorem getD_set_same {l : Array Bool} {i : Nat} (h : i < l.size) (d : Bool) : (l.setIfInBounds i true).getD i d = true := by
  simp [Array.getD_eq_getD_getElem?, h]
theorem getD_set_other {l : Array Bool} {i j : Nat} (h : i ≠ j) (d : Bool) : (l.setIfInBounds i true).getD j d = l.getD j d := by
  simp [Array.getD_eq_getD_getElem?, Array.getElem?_setIfInBounds_ne h]
theorem getD_flip {l : Array Bool} {i : Nat} (h : i < l.size) (d d' : Bool) : l.getD i d = l.getD i d' := by
  simp [Array.getD_eq_getD_getElem?, h]

/-- The frame behind the region. -/
def putAll (a0 : Act) (ops : List Oper) (vs : Nat → Value) : Nat → Act
  | 0 => a0
  | n + 1 => (putAll a0 ops vs n).put ((ops[n]?).bind (·.dst)) (vs n)

theorem putAll_rest (a0 : Act) (ops : List Oper) (vs : Nat → Value) : ∀ n, ({ putAll a0 ops vs n with tmps := a0.tmps } : Act) = a0 ∧ (putAll a0 ops vs n).tmps.size = a0.tmps.size := by
  intro n
  induction n with
  | zero => exact ⟨rfl, rfl⟩
  | succ n ih =>
    rw [putAll]
    cases (ops[n]?).bind (·.dst) with
    | none => exact ih
    | some t => exact ⟨ih.1, by simpa [Act.put] using ih.2⟩

theorem putAll_old (a0 : Act) (ops : List Oper) (vs : Nat → Value) (t : Nat) : ∀ n, (∀ i o, i < n → ops[i]? = some o → o.dst ≠ some t) → (putAll a0 ops vs n).tmps[t]? = a0.tmps[t]? := by
  intro n
  induction n with
  | zero => intro _; rfl
  | succ n ih =>
    intro h
    have h1 := ih (fun i o hi => h i o (by omega))
    rw [putAll, ← h1]
    cases hd : (ops[n]?).bind (·.dst) with
    | none => rfl
    | some u =>
      obtain ⟨o, ho, hou⟩ := Option.bind_eq_some_iff.1 hd
      have hne : u ≠ t := fun e => h n o (by omega) ho (e ▸ hou)
      simp [Act.put, Array.getElem?_setIfInBounds_ne hne]

theorem putAll_new (a0 : Act) (ops : List Oper) (vs : Nat → Value) (t i : Nat) (o : Oper) (hi : ops[i]? = some o) (ho : o.dst = some t) (ht : t < a0.tmps.size) :
    ∀ n, i < n → (∀ j p, ops[j]? = some p → j ≠ i → p.dst ≠ some t) → (putAll a0 ops vs n).tmps[t]? = some (vs i) := by
  intro n
  induction n with
  | zero => intro h; omega
  | succ n ih =>
    intro h hd
    rw [putAll]
    by_cases hin : i = n
    · subst hin
      rw [hi]
      have := (putAll_rest a0 ops vs i).2
      simp [Act.put, ho, this, ht]
    · have h1 := ih (by omega) hd
      rw [← h1]
      cases hd2 : (ops[n]?).bind (·.dst) with
      | none => rfl
      | some u =>
        obtain ⟨p, hp, hpu⟩ := Option.bind_eq_some_iff.1 hd2
        have hne : u ≠ t := fun e => hd n p hp (fun e2 => hin e2.symm) (e ▸ hpu)
        simp [Act.put, Array.getElem?_setIfInBounds_ne hne]

section
variable {P : Program} {ops : Array Oper} {Q : Exit → Act → World → Prop} {a0 : Act} {w0 : World} {Pr : Nat → Value → World → Prop}

theorem Up.start (h0 : w0 = w0) : Up ops a0 w0 Pr (Array.replicate ops.size false) a0 w0 := by
  have hf : ∀ i, (Array.replicate ops.size false).getD i false = false := fun i => by
    rw [Array.getD_eq_getD_getElem?, Array.getElem?_replicate]
    split <;> rfl
  exact ⟨by simp, rfl, rfl, fun _ _ => rfl, fun i o _ h => (by rw [hf] at h; cases h), Stay.refl _ _, fun i o _ h => (by rw [hf] at h; cases h)⟩

theorem Up.step {listed : Array Bool} {a : Act} {w w' : World} (ht : Region.tame ops a0.tmps.size = true) (hu : Up ops a0 w0 Pr listed a w) {i : Nat} {o : Oper} (hi : ops[i]? = some o) {v : Value}
    (hpre : ∀ e ∈ o.after, Region.binds .any e = true → listed.getD e.on false = true) (hv : Pr i v w') (hs : Stay w w' NoS) : Up ops a0 w0 Pr (listed.setIfInBounds i true) (a.put o.dst v) w' := by
  obtain ⟨hg, haf, hd⟩ := Region.tame_spec ht hi
  have hil : i < listed.size := by rw [hu.lsize]; exact (Array.getElem?_eq_some_iff.1 hi).1
  have hsz : (a.put o.dst v).tmps.size = a0.tmps.size := by
    rw [← hu.tsize]
    cases o.dst with
    | none => rfl
    | some t => simp [Act.put]
  refine ⟨by simpa using hu.lsize, ?_, hsz, fun t h => ?_, fun j p hj hl => ?_, hu.stay.trans hs (fun _ _ e => e), fun j p hj hl e he hb => ?_⟩
  · rw [← hu.rest]
    cases o.dst with
    | none => rfl
    | some t => rfl
  · rw [← hu.old t (fun j p hj hp => ?_)]
    · cases hdst : o.dst with
      | none => rfl
      | some u =>
        have hne : u ≠ t := fun e => by
          have := h i o hi (e ▸ hdst)
          rw [getD_set_same hil] at this
          cases this
        simp [Act.put, Array.getElem?_setIfInBounds_ne hne]
    · have := h j p hj hp
      by_cases hij : i = j
      · subst hij; rw [getD_set_same hil] at this; cases this
      · rwa [getD_set_other hij] at this
  · by_cases hij : i = j
    · subst hij
      rw [hi] at hj
      injection hj with hj
      subst hj
      refine ⟨v, w', hv, Stay.refl _ _, fun t hdt => ?_⟩
      have := (hd t hdt).1
      rw [hdt]
      simp [Act.put, hu.tsize, this]
    · rw [getD_set_other hij] at hl
      obtain ⟨v2, wi, h1, h2, h3⟩ := hu.new j p hj hl
      refine ⟨v2, wi, h1, h2.trans hs (fun _ _ e => e), fun t hdt => ?_⟩
      rw [← h3 t hdt]
      cases hdst : o.dst with
      | none => rfl
      | some u =>
        have hne : u ≠ t := fun e => (hd u hdst).2 j p hj (fun e2 => hij e2.symm) (e ▸ hdt)
        simp [Act.put, Array.getElem?_setIfInBounds_ne hne]
  · by_cases hij : i = j
    · subst hij
      rw [hi] at hj
      injection hj with hj
      subst hj
      have := haf e he hb
      rw [getD_set_other (by omega)]
      exact hpre e he hb
    · rw [getD_set_other hij] at hl
      have h4 := hu.closed j p hj hl e he hb
      by_cases hie : i = e.on
      · rw [hie, getD_set_same (by rw [← hie]; exact hil)]
      · rw [getD_set_other hie]; exact h4

theorem ready_nil {listed : Array Bool} (ht : Region.tame ops a0.tmps.size = true) (hsz : listed.size = ops.size) (hr : Region.ready .any ops listed = []) : ∀ i, i < ops.size → listed.getD i false = true := by
  intro i
  induction i using Nat.strongRecOn with
  | ind i ih =>
    intro hi
    cases hb : listed.getD i false with
    | true => rfl
    | false =>
      exfalso
      have hm : i ∈ Region.ready .any ops listed := by
        rw [mem_ready]
        obtain ⟨o, ho⟩ : ∃ o, ops[i]? = some o := ⟨_, Array.getElem?_eq_getElem hi⟩
        exact ⟨by rw [getD_flip (by omega) true false]; exact hb, o, ho, fun e he hbn => ih e.on ((Region.tame_spec ht ho).2.1 e he hbn) (by have := (Region.tame_spec ht ho).2.1 e he hbn; omega)⟩
      rw [hr] at hm
      cases hm

def falses (l : List Bool) : Nat := (l.filter (fun b => !b)).length
theorem falses_set : ∀ (l : List Bool) (i : Nat), l[i]? = some false → falses (l.set i true) + 1 = falses l
  | [], i, h => by simp at h
  | x :: xs, 0, h => by
    simp at h
    subst h
    simp [falses]
  | x :: xs, i + 1, h => by
    have h1 := falses_set xs i (by simpa using h)
    unfold falses at h1 ⊢
    rw [List.set_cons_succ, List.filter_cons, List.filter_cons]
    cases x <;> simp <;> omega
theorem falses_none : ∀ (l : List Bool), falses l = 0 → ∀ (i : Nat) (b : Bool), l[i]? = some b → b = true
  | [], _, i, b, h => by simp at h
  | x :: xs, hz, i, b, h => by
    unfold falses at hz
    cases x with
    | false => simp at hz
    | true =>
      cases i with
      | zero => simpa using h
      | succ i => exact falses_none xs (by unfold falses; simpa using hz) i b (by simpa using h)

theorem up_any (ht : Region.tame ops a0.tmps.size = true) (hs : ∀ (i : Nat) (o : Oper), ops[i]? = some o → UpStep P ops Q a0 w0 Pr i o)
    (hdone : ∀ listed a w, (∀ i, i < ops.size → listed.getD i false = true) → Up ops a0 w0 Pr listed a w → Q .normal a w) :
    ∀ (fuel : Nat) (listed : Array Bool) (a : Act) (w : World), falses listed.toList ≤ fuel → Up ops a0 w0 Pr listed a w → wpAny P .any ops Q fuel listed a w := by
  intro fuel
  induction fuel with
  | zero =>
    intro listed a w hf hu
    have hall : ∀ i, i < ops.size → listed.getD i false = true := fun i hi => by
      have hl : i < listed.size := by rw [hu.lsize]; exact hi
      have := falses_none listed.toList (by omega) i (listed[i]) (by simp [hl])
      rw [Array.getD_eq_getD_getElem?]
      simp [hl, this]
    refine ⟨?_, hdone listed a w hall hu⟩
    rw [List.eq_nil_iff_forall_not_mem]
    intro i hm
    obtain ⟨h1, o, ho, _⟩ := mem_ready.1 hm
    have hi := (Array.getElem?_eq_some_iff.1 ho).1
    rw [getD_flip (by rw [hu.lsize]; exact hi) true false, hall i hi] at h1
    cases h1
  | succ fuel ih =>
    intro listed a w hf hu
    refine ⟨fun hr => hdone listed a w (ready_nil ht hu.lsize hr) hu, fun i hm => ?_⟩
    obtain ⟨h1, o, ho, h2⟩ := mem_ready.1 hm
    have hi := (Array.getElem?_eq_some_iff.1 ho).1
    have hl : i < listed.size := by rw [hu.lsize]; exact hi
    have hg := (Region.tame_spec ht ho).1
    unfold wpOp
    simp only [ho]
    rw [if_pos (by unfold Region.wanted; rw [hg])]
    refine .inl (hs i o ho listed a w hu h2 _ (fun v w' hv hst => ih _ _ _ ?_ (hu.step ht ho h2 hv hst)))
    have h3 : listed.toList[i]? = some false := by
      rw [getD_flip hl true false, Array.getD_eq_getD_getElem?] at h1
      simp [hl] at h1
      simp [hl, h1]
    have := falses_set listed.toList i h3
    rw [Array.toList_setIfInBounds]
    omega

/-- A tame region: each operation's step, and what follows at the frame in which each has left its value. -/
theorem region_up {id : Nat} {w : World} (hm : P.follows .mixedOrders = true) (ht : Region.tame ops a0.tmps.size = true) (Pr : Nat → Value → World → Prop)
    (hs : ∀ (i : Nat) (o : Oper), ops[i]? = some o → UpStep P ops Q a0 w.drew Pr i o)
    (hdone : ∀ (vs : Nat → Value) (w' : World), (∀ i, i < ops.size → ∃ wi, Pr i (vs i) wi ∧ Stay wi w' NoS) → Stay w.drew w' NoS → Q .normal (putAll a0 ops.toList vs ops.size) w') :
    (Code.region id ops true).wp P Q a0 w := by
  refine wp_region_any hm (up_any (w0 := w.drew) (Pr := Pr) ht hs ?_ ops.size _ _ _ ?_ (Up.start rfl))
  · intro listed a w' hall hu
    have hex : ∀ i, ∃ v, i < ops.size → ∃ wi, Pr i v wi ∧ Stay wi w' NoS ∧ ∀ o, ops[i]? = some o → ∀ t, o.dst = some t → a.tmps[t]? = some v := fun i => by
      by_cases hi : i < ops.size
      · obtain ⟨v, wi, h1, h2, h3⟩ := hu.new i ops[i] (Array.getElem?_eq_getElem hi) (hall i hi)
        exact ⟨v, fun _ => ⟨wi, h1, h2, fun o ho t hd => h3 t (by rw [Array.getElem?_eq_getElem hi] at ho; injection ho with ho; rw [ho]; exact hd)⟩⟩
      · exact ⟨undef, fun h => absurd h hi⟩
    obtain ⟨vs, hvs⟩ := Classical.axiomOfChoice hex
    have hfr : a = putAll a0 ops.toList vs ops.size := by
      obtain ⟨h1, h2⟩ := putAll_rest a0 ops.toList vs ops.size
      have h3 : a.tmps = (putAll a0 ops.toList vs ops.size).tmps := by
        apply Array.ext_getElem?
        intro t
        by_cases hex : ∃ (i : Nat) (o : Oper), ops[i]? = some o ∧ o.dst = some t
        · obtain ⟨i, o, hi, ho⟩ := hex
          have hil := (Array.getElem?_eq_some_iff.1 hi).1
          obtain ⟨wi, _, _, h4⟩ := hvs i hil
          rw [h4 o hi t ho]
          obtain ⟨htl, hds⟩ := (Region.tame_spec ht hi).2.2 t ho
          exact (putAll_new a0 ops.toList vs t i o (by simpa using hi) ho htl ops.size hil (fun j p hj => hds j p (by simpa using hj))).symm
        · rw [hu.old t (fun i o hi ho => absurd ⟨i, o, hi, ho⟩ hex)]
          exact (putAll_old a0 ops.toList vs t ops.size (fun i o _ hi ho => hex ⟨i, o, by simpa using hi, ho⟩)).symm
      have h5 := hu.rest.trans h1.symm
      generalize putAll a0 ops.toList vs ops.size = b at h3 h5
      obtain ⟨_, _⟩ := a
      obtain ⟨_, _⟩ := b
      simp at h3 h5 ⊢
      exact ⟨h3, h5⟩
    rw [hfr]
    exact hdone vs w' (fun i hi => by obtain ⟨wi, h1, h2, _⟩ := hvs i hi; exact ⟨wi, h1, h2⟩) hu.stay
  · have : (Array.replicate ops.size false).toList = List.replicate ops.size false := by simp
    rw [this]
    unfold falses
    simp

/-- What stands in a temporary that an earlier operation fills. -/
theorem Up.val {listed : Array Bool} {a : Act} {w : World} (hu : Up ops a0 w0 Pr listed a w) (j : Nat) (o : Oper) (t : Nat) (hj : ops[j]? = some o) (hl : listed.getD j false = true) (ht : o.dst = some t) :
    ∃ v wi, Pr j v wi ∧ Stay wi w NoS ∧ a.tmps[t]? = some v := by
  obtain ⟨v, wi, h1, h2, h3⟩ := hu.new j o hj hl
  exact ⟨v, wi, h1, h2, h3 t ht⟩
/-- .. that waits for it. -/
theorem Up.at {listed : Array Bool} {a : Act} {w : World} (hu : Up ops a0 w0 Pr listed a w) {o : Oper} (hpre : ∀ e ∈ o.after, Region.binds .any e = true → listed.getD e.on false = true) (j t : Nat) (hj : (ops[j]?).map (·.dst) = some (some t))
    (hb : o.after.any (fun e => e.on == j && Region.binds .any e) = true) : ∃ v wi, Pr j v wi ∧ Stay wi w NoS ∧ a.tmps[t]? = some v := by
  obtain ⟨p, hp, hd⟩ := Option.map_eq_some_iff.1 hj
  obtain ⟨e, he, hb⟩ := Array.any_eq_true'.1 hb
  simp only [Bool.and_eq_true, beq_iff_eq] at hb
  exact hu.val j p t hp (by have := hpre e he hb.2; rwa [hb.1] at this) hd
/-- What stands in a temporary that none of the region's operations fills. -/
theorem Up.elder {listed : Array Bool} {a : Act} {w : World} (hu : Up ops a0 w0 Pr listed a w) (t : Nat) (h : (ops.toList.all fun o => o.dst != some t) = true) : a.tmps[t]? = a0.tmps[t]? :=
  hu.old t (fun i o hi ho => by
    have := List.all_eq_true.1 h o (Array.mem_toList_iff.2 (Array.mem_of_getElem? hi))
    rw [ho] at this
    simp at this)

/-- The steps, one behind the other. -/
def UpSteps (P : Program) (ops : Array Oper) (Q : Exit → Act → World → Prop) (a0 : Act) (w0 : World) (Pr : Nat → Value → World → Prop) : Nat → List Oper → Prop
  | _, [] => True
  | i, o :: os => UpStep P ops Q a0 w0 Pr i o ∧ UpSteps P ops Q a0 w0 Pr (i + 1) os
theorem UpSteps.all : ∀ (os : List Oper) (k : Nat), UpSteps P ops Q a0 w0 Pr k os → ∀ (i : Nat) (o : Oper), os[i]? = some o → UpStep P ops Q a0 w0 Pr (k + i) o
  | [], k, _, i, o, h => by simp at h
  | p :: os, k, hs, 0, o, h => by
    simp at h
    subst h
    exact hs.1
  | p :: os, k, hs, i + 1, o, h => by
    have := UpSteps.all os (k + 1) hs.2 i o (by simpa using h)
    rwa [show k + (i + 1) = k + 1 + i from by omega]

/-- region_up, the steps written out. -/
theorem region_ups {l : List Oper} {id : Nat} {w : World} (hm : P.follows .mixedOrders = true) (ht : Region.tame l.toArray a0.tmps.size = true) (Pr : Nat → Value → World → Prop)
    (hs : UpSteps P l.toArray Q a0 w.drew Pr 0 l)
    (hdone : ∀ (vs : Nat → Value) (w' : World), (∀ i, i < l.length → ∃ wi, Pr i (vs i) wi ∧ Stay wi w' NoS) → Stay w.drew w' NoS → Q .normal (putAll a0 l vs l.length) w') :
    (Code.region id l.toArray true).wp P Q a0 w :=
  region_up hm ht Pr (fun i o hi => by
    have := UpSteps.all l 0 hs i o (by simpa using hi)
    rwa [Nat.zero_add] at this) (fun vs w' h1 h2 => hdone vs w' (fun i hi => h1 i (by simpa using hi)) h2)
end
end Go.Proofs.YtgidbplaoijalaaGreatRDoor

/- Terms as values: the contracts of pythiaref07 and write.Text in one form. -/
namespace Go.Proofs.YtgidbplaoijalaaGreatRDoor
set_option linter.unusedSimpArgs false
open Go.RowKit Go.Proofs.YtgidbplaoijalaaGreatRDoorW.PrintWords
set_option linter.unusedVariables false

/-- The value is this term. -/
def TV (t : Tm) (v : Value) (w : World) : Prop := ∃ (A : Option Addr) (c : Nat) (ok : Nat → Prop), v = tmV t A c ∧ t.args.length ≤ c ∧ Kd.F kTm w ok A t.args.length t.args
/-- The value is a slice of these terms. -/
def RV (ts : List Tm) (v : Value) (w : World) : Prop := ∃ (A : Option Addr) (c : Nat) (ok : Nat → Prop), v = .slice A ts.length c ∧ ts.length ≤ c ∧ Kd.F kTm w ok A ts.length ts

theorem TV.stay {t : Tm} {v : Value} {w w' : World} (h : TV t v w) (hs : Stay w w' NoS) : TV t v w' := by
  obtain ⟨A, c, ok, h1, h2, h3⟩ := h
  exact ⟨A, c, ok, h1, h2, hs.F h3 (fun _ _ e => e)⟩
theorem RV.stay {ts : List Tm} {v : Value} {w w' : World} (h : RV ts v w) (hs : Stay w w' NoS) : RV ts v w' := by
  obtain ⟨A, c, ok, h1, h2, h3⟩ := h
  exact ⟨A, c, ok, h1, h2, hs.F h3 (fun _ _ e => e)⟩
theorem TV.cells {t : Tm} {v : Value} {w : World} (h : TV t v w) : ∃ A c, v = .agg #[.int .i64 t.kind, .string t.name, .int .i64 t.int, .slice A t.args.length c] := by
  obtain ⟨A, c, ok, h1, _⟩ := h
  exact ⟨A, c, h1⟩
theorem F_nil (w : World) (ok : Nat → Prop) : Kd.F kTm w ok none ([] : List Tm).length [] := fun W _ => Kd.C_nil _ W
theorem TV.leaf (k : Int) (nm : ByteArray) (i : Int) (w : World) : TV ⟨k, nm, i, []⟩ (tmV ⟨k, nm, i, []⟩ none 0) w := ⟨none, 0, fun _ => False, rfl, Nat.le_refl _, F_nil w _⟩

/-- What a call that makes a value leaves. -/
def MkPost (p : Value → World → Prop) (w : World) (e : Ending) (w' : World) : Prop := ∃ v, e = .returned v ∧ p v w' ∧ Stay w w' NoS

theorem n_tv (i : Int) (w : World) : Calls Tryz.prog 18 #[.int .i64 i] w (MkPost (TV ⟨2, ⟨#[]⟩, i, []⟩) w) :=
  (n_any i w).mono fun e w' ⟨he, hs⟩ => ⟨_, he, TV.leaf _ _ _ _, hs⟩
theorem v_tv (i : Int) (w : World) : Calls Tryz.prog 37 #[.int .i64 i] w (MkPost (TV ⟨1, ⟨#[]⟩, i, []⟩) w) :=
  (v_any i w).mono fun e w' ⟨he, hs⟩ => ⟨_, he, TV.leaf _ _ _ _, hs⟩
theorem a_tv (nm : ByteArray) (w : World) : Calls Tryz.prog 17 #[.string nm] w (MkPost (TV ⟨3, nm, 0, []⟩) w) :=
  (a_any nm w).mono fun e w' ⟨he, hs⟩ => ⟨_, he, TV.leaf _ _ _ _, hs⟩
theorem c_tv (nm : ByteArray) {ts : List Tm} {v : Value} {w : World} (h : RV ts v w) : Calls Tryz.prog 24 #[.string nm, v] w (MkPost (TV ⟨4, nm, 0, ts⟩) w) := by
  obtain ⟨A, c, ok, rfl, hc, hF⟩ := h
  exact (c_any nm ts A c w).mono fun e w' ⟨he, hs⟩ => ⟨_, he, ⟨A, c, ok, rfl, hc, hs.F hF (fun _ _ e => e)⟩, hs⟩
theorem list_tv {ts : List Tm} {tail : Tm} {u v : Value} {w : World} (h : RV ts u w) (k : TV tail v w) : Calls Tryz.prog 16 #[u, v] w (MkPost (TV (listT ts tail)) w) := by
  obtain ⟨A, c, ok, rfl, hc, hF⟩ := h
  obtain ⟨B, d, ok', rfl, hd, hG⟩ := k
  exact (list_any ts tail A B c d (fun j => ok j ∨ ok' j) w (Kd.F_mono hF (fun j hj => .inl hj)) (Kd.F_mono hG (fun j hj => .inr hj)) hd).mono fun e w' ⟨A', c', he, h1, h2, h3⟩ => ⟨_, he, ⟨A', c', _, rfl, h1, h2⟩, h3⟩
theorem text_tv {t : Tm} {v : Value} {w : World} (h : TV t v w) (hL : Laid w) (hr : rngT t = true) :
    Calls Tryz.prog 13 #[v] w fun e w' => e = .returned (.tuple #[.string (bs (textR t).1), .int .i64 (textR t).2]) ∧ Stay w w' NoS := by
  obtain ⟨A, c, ok, rfl, hc, hF⟩ := h
  exact text_any t A c ok w hL hr hF hc
theorem same_tv {t u : Tm} {v x : Value} {w : World} (h : TV t v w) (k : TV u x w) :
    Calls Tryz.prog 14 #[v, x] w fun e w' => e = .returned (.bool (sameT t u)) ∧ Stay w w' NoS := by
  obtain ⟨A, c, ok, rfl, hc, hF⟩ := h
  obtain ⟨B, d, ok', rfl, hd, hG⟩ := k
  exact same_any t u A B c d ok ok' w hF hG

/-- The leaves, their four cells written out. -/
def leafV (k : Int) (nm : ByteArray) (i : Int) : Value := .agg #[.int .i64 k, .string nm, .int .i64 i, .slice none 0 0]
theorem n_lit (i : Int) (w : World) : Calls Tryz.prog 18 #[.int .i64 i] w fun e w' => e = .returned (.agg #[.int .i64 2, .string ⟨#[]⟩, .int .i64 i, .slice none 0 0]) ∧ Stay w w' NoS := n_any i w
theorem v_lit (i : Int) (w : World) : Calls Tryz.prog 37 #[.int .i64 i] w fun e w' => e = .returned (.agg #[.int .i64 1, .string ⟨#[]⟩, .int .i64 i, .slice none 0 0]) ∧ Stay w w' NoS := v_any i w
theorem a_lit (nm : ByteArray) (w : World) : Calls Tryz.prog 17 #[.string nm] w fun e w' => e = .returned (.agg #[.int .i64 3, .string nm, .int .i64 0, .slice none 0 0]) ∧ Stay w w' NoS := a_any nm w
theorem c_lit (nm : ByteArray) (A : Option Addr) (n c : Nat) (w : World) : Calls Tryz.prog 24 #[.string nm, .slice A n c] w fun e w' => e = .returned (.agg #[.int .i64 4, .string nm, .int .i64 0, .slice A n c]) ∧ Stay w w' NoS := by
  have h := c_any nm (List.replicate n zTm) A c w
  simp only [List.length_replicate] at h
  refine h.mono fun e w' ⟨he, hs⟩ => ⟨?_, hs⟩
  rw [he, tmV]
  simp
theorem TV.of {t : Tm} {A : Option Addr} {c : Nat} {ok : Nat → Prop} {w : World} (hc : t.args.length ≤ c) (hF : Kd.F kTm w ok A t.args.length t.args) : TV t (.agg #[.int .i64 t.kind, .string t.name, .int .i64 t.int, .slice A t.args.length c]) w := ⟨A, c, ok, rfl, hc, hF⟩
theorem F_leaf (t : Tm) (h : t.args = []) (w : World) (ok : Nat → Prop) : Kd.F kTm w ok none t.args.length t.args := by rw [h]; exact F_nil w ok

/-- A row of terms that a slice literal lays. -/
def cells1 (t : Tm) (A : Option Addr) (c : Nat) : List Value := [.int .i64 t.kind, .string t.name, .int .i64 t.int, .slice A t.args.length c]
theorem row_F (w : World) (ok : Nat → Prop) (xs : List (Tm × Option Addr × Nat)) (hm : xs.length ≤ 1000) (h : ∀ x ∈ xs, x.1.args.length ≤ x.2.2 ∧ Kd.F kTm w ok x.2.1 x.1.args.length x.1.args) :
    Kd.F kTm (w.alloc (.cells (xs.map fun x => cells1 x.1 x.2.1 x.2.2).flatten.toArray 24)) (fun k => ok k ∨ k = w.heap.size) (some ⟨w.heap.size, 0, none⟩) (xs.map (·.1)).length (xs.map (·.1)) := by
  refine blk_F (heap_alloc_new _ _) (by simp) (by simp; omega) (fun j x cs hx hcs => ?_) (.inr rfl)
  rw [List.getElem?_map] at hx hcs
  obtain ⟨p, hp, rfl⟩ := Option.map_eq_some_iff.1 hx
  rw [hp] at hcs
  simp only [Option.map_some, Option.some.injEq] at hcs
  subst hcs
  obtain ⟨h1, h2⟩ := h p (List.mem_of_getElem? hp)
  exact kTm_mkF _ _ _ h1 (Kd.F_mono (Kd.F_alloc h2 _) (fun k hk => .inl hk))
end Go.Proofs.YtgidbplaoijalaaGreatRDoor

/- What the rows' conditions give the walks: the library's variables as its initialisers lay them. -/
namespace Go.Proofs.YtgidbplaoijalaaGreatRDoor
set_option linter.unusedSimpArgs false
open Go.ChangeShapes Go.WideShapes Go.ChangeAt Go.RowKit Go.Proofs.YtgidbplaoijalaaGreatRDoorW.PrintWords
set_option linter.unusedVariables false

theorem own : ownKnob Tryz.prog.godebug = none := by kernel_rfl
theorem laidOut : laidOutB Tryz.prog = true := by kernel_rfl

/-- The condition and the world's shape, both handed on. -/
theorem returnsInHanded_of_change_both {H : Type} {enc : TypeId × Value → H} {a : Assume} {C : Checked} {os : Os} {f : FuncId} {fn : Func} {s : ChangeSpec} {conds : List PathCond} {apart fresh handsOn again : Bool} {X : World → Array Value → Prop}
    (hX : ∀ (w w' : World) (args : Array Value), w.heap = w'.heap → X w args → X w' args)
    (own : ownKnob C.prog.godebug = none) (started : os.Started) (noInit : C.prog.inits.idxOf? f = none) (hfn : C.prog.funcs[f]? = some fn)
    (witness : ∃ (w : World) (tape : Tape) (i : Input), w.os = os ∧ (w.forCall tape i).Shaped C.prog ∧ i.vars = [] ∧ Input.okWide C.prog (w.forCall tape i) .any w.heap.size f i ∧
      ((s.pre enc C.prog fn conds apart (w.forCall tape i).memory i.args ∧ X (w.forCall tape i).memory i.args) ∧ sizedMet enc C.prog fn (OpenSpec.ofChange s) apart (w.forCall tape i).memory i.args) ∧ a.holds C.prog (lone (Frame.enter C.prog f i.args .normal) [] (w.forCall tape i)))
    (contract : ∀ (W : World) (base : Nat) (args : Array Value) (ds gs : List (DataW H)) (before : List MemPlace),
      (∀ (j : Nat) t v, fn.params[j]? = some t → args[j]? = some v → Value.okWide C.prog W .any base t v) →
      DataW.Whole enc C.prog fn.params.toList s.vars apart W args.toList ds gs before →
      (DataW.weightsEach C.prog (fn.params.toList ++ s.plain.varTypes C.prog) (ds ++ gs)).all (· ≤ reachBytes) = true → X W args → W.ShapedOpen C.prog →
      Calls C.prog f args W fun e W' => ∃ v, e = .returned v ∧ s.post enc C.prog fn apart fresh handsOn again W args v W') :
    ReturnsInHanded a C os f .any (fun w args => (s.pre enc C.prog fn conds apart w args ∧ X w args) ∧ sizedMet enc C.prog fn (OpenSpec.ofChange s) apart w args) (s.post enc C.prog fn apart fresh handsOn again) := by
  refine returnsInHanded_of_calls own started noInit witness ?_
  intro w tape i _ hsh _ hok hpre hholds
  obtain ⟨_, _, _, fn', hfn', _, _, _, _, hval⟩ := hok
  have e : fn' = fn := Option.some.inj (hfn'.symm.trans hfn)
  subst e
  obtain ⟨⟨⟨ds, gs, before, hw, hc⟩, hx⟩, hz⟩ := hpre
  have hw' := DataW.Whole.of_heap (w' := w.forCall tape i) (by rfl) hw
  refine (contract (w.forCall tape i) w.heap.size i.args ds gs before hval hw' (hz.weights hw) (hX _ _ _ (by rfl) hx) hsh).mono fun e W' ⟨v, he, hp⟩ => ?_
  subst he
  exact ChangeSpec.post_blind hp

abbrev laidA : List (String × DataW Unit) := [("math/bits.deBruijn32tab", Rows.laid_math_bits_deBruijn32tab), ("math/bits.deBruijn64tab", Rows.laid_math_bits_deBruijn64tab), ("internal/strconv.uint64pow10", Rows.laid_internal_strconv_uint64pow10), ("strconv.ErrRange", Rows.laid_strconv_ErrRange), ("strconv.ErrSyntax", Rows.laid_strconv_ErrSyntax)]

/-- The door's own heap meets the condition. -/
theorem doorA_met (os : Os) (args : Array Value) : laidMetH Tryz.prog laidA ((World.doorLaid Tryz.prog 79 os).forCall (fun _ _ => 0) ⟨#[], args, []⟩).memory :=
  laidMetH_of_parts3 (fuel := 8) (laidMet_of_run' 8 (by kernel_rfl) (by kernel_rfl)) (by kernel_rfl) (by kernel_rfl)

theorem pow_laid {rest : List (String × DataW Unit)} {W : World} (h : laidMet Tryz.prog (("internal/strconv.uint64pow10", Rows.laid_internal_strconv_uint64pow10) :: rest) W) : Lib.TabIs Tryz.prog W "internal/strconv.uint64pow10" .u64 Lib.pow10Tab :=
  Lib.tabIs_of_head (g := 3) (t := 244) (e := 218) (n := 20) (by kernel_rfl) (by kernel_rfl) Tryz.underlying244 Tryz.underlying218 (by kernel_rfl) (by kernel_rfl) h
theorem errStar : "*" ++ "errors.errorString" = "*errors.errorString" := by decide
theorem errRow (u : TypeId) (h : Tryz.prog.typeName? 3 u = some "*errors.errorString") : u = 284 :=
  typeName_ptr_named (nm := "errors.errorString") (by rw [errStar]; kernel_rfl) (by kernel_rfl) (by decide) u (by rw [errStar]; exact h)
theorem range_laid {rest : List (String × DataW Unit)} {W : World} (h : laidMet Tryz.prog (("strconv.ErrRange", Rows.laid_strconv_ErrRange) :: rest) W) : RangeVar W := by
  have hg : Tryz.prog.globalNamed "strconv.ErrRange" = some 2 := by kernel_rfl
  obtain ⟨a, s, hv, _⟩ := laid_sentinel (te := 286) (ts := 9) h hg (by kernel_rfl) Tryz.underlying38 errRow Tryz.underlying284 Tryz.underlying286 rfl rfl Tryz.underlying9 (by kernel_rfl) (by kernel_rfl)
  exact ⟨a, by simpa using World.var?_cell hg hv 0⟩
theorem max_shaped {W : World} (h : W.ShapedOpen Tryz.prog) : MaxVar W :=
  cell_of_shapedOpen_int (t := 3) (zero := #[.int .i64 0]) h (of_decide_eq_true (by kernel_rfl)) (by kernel_rfl) rfl (by kernel_rfl) (by kernel_rfl) Tryz.underlying3
theorem laidA_Laid {W : World} (h : laidMetH Tryz.prog laidA W) (hs : W.ShapedOpen Tryz.prog) : Laid W := by
  have h : laidMet Tryz.prog laidA W := h
  have h3 := laidMet.tail (laidMet.tail h)
  have h4 := laidMet.tail h3
  refine ⟨range_laid h4, max_shaped hs, ?_, pow_laid h3⟩
  obtain ⟨cs, hcs, _⟩ := hs.1 8 #[.nilIface] 38 (of_decide_eq_true (by kernel_rfl)) (by kernel_rfl)
  exact (Array.getElem?_eq_some_iff.1 hcs).1
set_option maxRecDepth 100000 in
/-- A term that came in as an argument. -/
theorem open_arg {H : Type} {enc : TypeId × Value → H} {W : World} {base : Nat} {v : Value} {d : DataW H} {p : List MemPlace} {r : Reach} {b0 : Nat} (hv : Value.okWide Tryz.prog W r b0 24 v)
    (h : DataW.Trod enc Tryz.prog W base (fun _ => true) true 24 v d p) : ∃ t : Tm, TV t v W ∧ rngT t = true := by
  obtain ⟨cs, rfl, hsz⟩ := okWide_struct Tryz.underlying24 hv
  obtain ⟨fuel, hf⟩ := h
  obtain ⟨t, A, c, hcs, hc, hC, hr⟩ := open_tm fuel fuel (Nat.le_refl _) hf
  refine ⟨t, ⟨A, c, _, ?_, hc, Kd.C_F tmHeap hC⟩, hr⟩
  have hcs : cs.toList = [.int .i64 t.kind, .string t.name, .int .i64 t.int, .slice A t.args.length c] := by
    rw [← hcs]
    simp [Value.cells]
  obtain ⟨l⟩ := cs
  simp only at hcs
  rw [hcs]
  rfl

end Go.Proofs.YtgidbplaoijalaaGreatRDoor

/- The walk of pythialaw11.alive. -/
namespace Go.Proofs.YtgidbplaoijalaaGreatRDoor
set_option linter.unusedSimpArgs false
open Go.RowKit Go.Proofs.YtgidbplaoijalaaGreatRDoorW.PrintWords
set_option linter.unusedVariables false

def tN (i : Int) : Tm := ⟨2, ⟨#[]⟩, i, []⟩
def tV (i : Int) : Tm := ⟨1, ⟨#[]⟩, i, []⟩
def tA (nm : ByteArray) : Tm := ⟨3, nm, 0, []⟩
def tC (nm : ByteArray) (ts : List Tm) : Tm := ⟨4, nm, 0, ts⟩
def exL : Tm := listT [tN 1, tN (-2)] (tV 3)
def exT : Tm := tC ⟨#[102]⟩ [tV 1, tA ⟨#[97, 32, 98]⟩, exL, tC ⟨#[43]⟩ [tN 1, tN 2]]

theorem itoa_lit (n : Nat) (h : n < 10) : Lib.itoa (n : Int) = [UInt8.ofNat (48 + n)] := by
  rw [Lib.itoa_nonneg, Lib.decDigits_one h]
theorem itoa1 : Lib.itoa 1 = [49] := itoa_lit 1 (by decide)
theorem itoa2 : Lib.itoa 2 = [50] := itoa_lit 2 (by decide)
theorem itoa3 : Lib.itoa 3 = [51] := itoa_lit 3 (by decide)
theorem itoa_2 : Lib.itoa (-2) = [45, 50] := by
  have := Lib.itoa_neg 2 (by decide)
  rw [Lib.decDigits_one (by decide)] at this
  exact this
theorem termS_V (i : Int) : termS (tV i) = 95 :: Lib.itoa i := by rw [tV, termS, if_pos rfl]
theorem termS_N (i : Int) : termS (tN i) = Lib.itoa i := by rw [tN, termS, if_neg (by decide), if_pos rfl]
theorem termS_A (nm : ByteArray) : termS (tA nm) = atomS nm := by rw [tA, termS, if_neg (by decide), if_neg (by decide), if_pos rfl]
theorem termS_C (nm : ByteArray) (ts : List Tm) (h : ¬ (nm = dotN ∧ ts.length = 2)) : termS (tC nm ts) = functorS nm ++ 40 :: (allS ts ++ [41]) := by rw [tC, termS4, if_neg h]
theorem exL_text : termS exL = [91, 49, 44, 45, 50, 124, 95, 51, 93] := by
  rw [exL, listT, List.foldr_cons, List.foldr_cons, List.foldr_nil, termS4, if_pos ⟨rfl, rfl⟩, pairS_two, termS_N, itoa1, tailS_eq]
  simp only
  rw [if_pos ⟨trivial, trivial, rfl⟩, pairS_two, termS_N, itoa_2, tailS_eq]
  rw [if_neg (by decide), if_neg (by decide), termS_V, itoa3]
  rfl
theorem exT_text : textR exT = ([102, 40, 95, 49, 44, 39, 97, 32, 98, 39, 44, 91, 49, 44, 45, 50, 124, 95, 51, 93, 44, 43, 40, 49, 44, 50, 41, 41], 0) := by
  have h1 : rightB exT = true := by decide +kernel
  have h2 : failS exT = false := by decide +kernel
  rw [textR, if_pos h1, h2, if_neg (by decide), exT, termS_C _ _ (by decide), allS_cons, termS_V, itoa1, moreS_cons, termS_A, moreS_cons, exL_text, moreS_cons, moreS_nil, termS_C _ _ (by decide), allS_cons, moreS_cons, moreS_nil, termS_N, termS_N, itoa1, itoa2,
    show functorS ⟨#[102]⟩ = [102] from by decide +kernel, show atomS ⟨#[97, 32, 98]⟩ = [39, 97, 32, 98, 39] from by decide +kernel, show functorS ⟨#[43]⟩ = [43] from by decide +kernel]
  rfl
theorem exQ_text : textR (tC ⟨#[91, 93]⟩ [tA ⟨#[97]⟩]) = ([39, 91, 93, 39, 40, 97, 41], 0) := by
  have h1 : rightB (tC ⟨#[91, 93]⟩ [tA ⟨#[97]⟩]) = true := by decide +kernel
  have h2 : failS (tC ⟨#[91, 93]⟩ [tA ⟨#[97]⟩]) = false := by decide +kernel
  rw [textR, if_pos h1, h2, if_neg (by decide), termS_C _ _ (by decide), allS_cons, moreS_nil, termS_A, show functorS ⟨#[91, 93]⟩ = [39, 91, 93, 39] from by decide +kernel, show atomS ⟨#[97]⟩ = [97] from by decide +kernel]
  rfl
theorem exN_name : nameS ⟨#[44]⟩ = ([39, 44, 39], 0) := by decide +kernel

set_option maxHeartbeats 2000000 in
set_option maxRecDepth 100000 in
theorem alive11_any (w : World) (hL : Laid w) :
    Calls Tryz.prog 12 #[] w fun e w' => e = .returned (.bool true) ∧ Stay w w' NoS := by
  have HL := hide hL
  clear hL
  go_enter Tryz.func12, Tryz.ntmps12
  go_wp2_with fail
  refine (n_lit _ _).mono ?_
  rintro e w1 ⟨rfl, s1⟩
  go_wp2_with fail
  refine (n_lit _ _).mono ?_
  rintro e w2 ⟨rfl, s2⟩
  go_wp2_with fail
  refine (v_lit _ _).mono ?_
  rintro e w3 ⟨rfl, s3⟩
  have hrow : RV [tN 1, tN (-2)] (.slice (some ⟨w2.heap.size, 0, none⟩) 2 2) w3 :=
    ⟨_, _, _, rfl, Nat.le_refl _, s3.F (row_F w2 NoS [(tN 1, none, 0), (tN (-2), none, 0)] (by decide) (fun x hx => by
      simp only [List.mem_cons, List.mem_nil_iff, or_false] at hx
      rcases hx with rfl | rfl
      · exact ⟨Nat.le_refl _, F_nil _ _⟩
      · exact ⟨Nat.le_refl _, F_nil _ _⟩)) (fun _ _ e => e)⟩
  have Hrow := hide hrow
  have Hs3 := hide (((s1.trans s2 (fun _ _ e => e)).alloc _).trans s3 (fun _ _ e => e))
  clear hrow s1 s2 s3
  go_wp2_with fail
  refine (list_tv Hrow.out (TV.of (t := tV 3) (Nat.le_refl _) (F_leaf _ rfl _ NoS))).mono ?_
  rintro e w4 ⟨v4, rfl, h4, s4⟩
  obtain ⟨A4, c4, ok4, rfl, hc4, hF4⟩ := h4
  have Hs4 := hide (Hs3.out.trans s4 (fun _ _ e => e))
  have HF4 := hide hF4
  have Hc4 := hide hc4
  clear Hs3 s4 hF4 hc4 Hrow
  rw [show tmV (listT [tN 1, tN (-2)] (tV 3)) A4 c4 = .agg #[.int .i64 4, .string ⟨#[46]⟩, .int .i64 0, .slice A4 2 c4] from rfl]
  go_wp2_with fail
  obtain ⟨W, hW⟩ : ∃ W, W = w4.alloc (.cells #[.int .i64 4, .string ⟨#[46]⟩, .int .i64 0, .slice A4 2 c4] 24) := ⟨_, rfl⟩
  rw [← hW]
  have HtbW : Hid (TB w4.heap.size 4 ⟨#[46]⟩ 0 (.slice A4 2 c4) W) := hide (by rw [hW]; exact heap_alloc_new _ _)
  have HsW := hide (show Stay w W NoS by rw [hW]; exact Hs4.out.alloc _)
  have HFW := hide (show Kd.F kTm W ok4 A4 2 [tN 1, listT [tN (-2)] (tV 3)] by rw [hW]; exact Kd.F_alloc HF4.out _)
  generalize w4.heap.size = q at HtbW ⊢
  clear hW Hs4 HF4
  refine region_ups (by kernel_rfl) (by kernel_rfl) (fun i => [
    (fun v _ => v = leafV 1 ⟨#[]⟩ 1), (fun v _ => v = leafV 3 ⟨#[97, 32, 98]⟩ 0), (fun v _ => v = .agg #[.int .i64 4, .string ⟨#[46]⟩, .int .i64 0, .slice A4 2 c4]), (fun v _ => v = leafV 2 ⟨#[]⟩ 1), (fun v _ => v = leafV 2 ⟨#[]⟩ 2),
    RV [tN 1, tN 2], TV (tC ⟨#[43]⟩ [tN 1, tN 2]), RV [tV 1, tA ⟨#[97, 32, 98]⟩, exL, tC ⟨#[43]⟩ [tN 1, tN 2]], TV exT,
    (fun v _ => v = .tuple #[.string (bs (textR exT).1), .int .i64 (textR exT).2]), (fun v _ => v = .tuple #[.string (bs (textR exT).1), .int .i64 (textR exT).2]),
    (fun v _ => v = .string (bs (textR exT).1)), (fun v _ => v = .int .i64 (textR exT).2), (fun v _ => v = .string (bs (textR exT).1)), (fun v _ => v = .int .i64 (textR exT).2)].getD i (fun _ _ => True)) ?_ ?_
  · refine ⟨?_, ?_, ?_, ?_, ?_, ?_, ?_, ?_, ?_, ?_, ?_, ?_, ?_, ?_, ?_, trivial⟩
    · intro listed a u hu hpre K hK
      go_simp
      refine (v_lit _ _).mono ?_
      rintro e u' ⟨rfl, s⟩
      exact hK _ _ rfl s
    · intro listed a u hu hpre K hK
      go_simp
      refine (a_lit _ _).mono ?_
      rintro e u' ⟨rfl, s⟩
      exact hK _ _ rfl s
    · intro listed a u hu hpre K hK
      have htb := (TB.drew HtbW.out).stay hu.stay (fun e => e)
      have q0 : u.cell? ⟨q, 0, none⟩ = _ := cell_of htb 0 _ rfl
      have q1 : u.cell? ⟨q, 1, none⟩ = _ := cell_of htb 1 _ rfl
      have q2 : u.cell? ⟨q, 2, none⟩ = _ := cell_of htb 2 _ rfl
      have q3 : u.cell? ⟨q, 3, none⟩ = _ := cell_of htb 3 _ rfl
      have t1 : a.tmps[1]? = some (.pointer (some ⟨q, 0, none⟩)) := hu.elder 1 (by kernel_rfl)
      clear htb hu
      go_simp
      exact hK _ _ rfl (Stay.refl _ _)
    · intro listed a u hu hpre K hK
      go_simp
      refine (n_lit _ _).mono ?_
      rintro e u' ⟨rfl, s⟩
      exact hK _ _ rfl s
    · intro listed a u hu hpre K hK
      go_simp
      refine (n_lit _ _).mono ?_
      rintro e u' ⟨rfl, s⟩
      exact hK _ _ rfl s
    · intro listed a u hu hpre K hK
      obtain ⟨x, wi, hx, _, t17⟩ := hu.at hpre 3 17 rfl (by kernel_rfl)
      obtain ⟨y, wj, hy, _, t18⟩ := hu.at hpre 4 18 rfl (by kernel_rfl)
      obtain rfl : x = .agg #[.int .i64 2, .string ⟨#[]⟩, .int .i64 1, .slice none 0 0] := hx
      obtain rfl : y = .agg #[.int .i64 2, .string ⟨#[]⟩, .int .i64 2, .slice none 0 0] := hy
      clear hu hpre
      go_simp
      refine hK _ _ ⟨_, _, _, rfl, Nat.le_refl _, row_F u NoS [(tN 1, none, 0), (tN 2, none, 0)] (by decide) (fun x hx => ?_)⟩ ((Stay.refl _ _).alloc _)
      simp only [List.mem_cons, List.mem_nil_iff, or_false] at hx
      rcases hx with rfl | rfl
      · exact ⟨Nat.le_refl _, F_nil _ _⟩
      · exact ⟨Nat.le_refl _, F_nil _ _⟩
    · intro listed a u hu hpre K hK
      obtain ⟨x, wi, ⟨A, c, ok, rfl, hc, hF⟩, hs, t19⟩ := hu.at hpre 5 19 rfl (by kernel_rfl)
      have t19 : a.tmps[19]? = some (.slice A 2 c) := t19
      clear hu hpre
      go_simp
      refine (c_lit _ _ _ _ _).mono ?_
      rintro e u' ⟨rfl, s⟩
      exact hK _ _ ⟨A, c, ok, rfl, hc, (hs.trans s (fun _ _ e => e)).F hF (fun _ _ e => e)⟩ s
    · intro listed a u hu hpre K hK
      obtain ⟨x0, w0, hx0, _, t14⟩ := hu.at hpre 0 14 rfl (by kernel_rfl)
      obtain ⟨x1, w1, hx1, _, t15⟩ := hu.at hpre 1 15 rfl (by kernel_rfl)
      obtain ⟨x2, w2, hx2, _, t16⟩ := hu.at hpre 2 16 rfl (by kernel_rfl)
      obtain ⟨x3, w3, ⟨A, c, ok, rfl, hc, hF⟩, hs, t20⟩ := hu.at hpre 6 20 rfl (by kernel_rfl)
      obtain rfl : x0 = .agg #[.int .i64 1, .string ⟨#[]⟩, .int .i64 1, .slice none 0 0] := hx0
      obtain rfl : x1 = .agg #[.int .i64 3, .string ⟨#[97, 32, 98]⟩, .int .i64 0, .slice none 0 0] := hx1
      obtain rfl : x2 = .agg #[.int .i64 4, .string ⟨#[46]⟩, .int .i64 0, .slice A4 2 c4] := hx2
      have t20 : a.tmps[20]? = some (.agg #[.int .i64 4, .string ⟨#[43]⟩, .int .i64 0, .slice A 2 c]) := t20
      have hF1 : Kd.F kTm u (fun j => ok4 j ∨ ok j) A4 2 [tN 1, listT [tN (-2)] (tV 3)] := Kd.F_mono (hu.stay.F (Kd.F_drew HFW.out) (fun _ _ e => e)) (fun j hj => .inl hj)
      have hF2 : Kd.F kTm u (fun j => ok4 j ∨ ok j) A 2 [tN 1, tN 2] := Kd.F_mono (hs.F hF (fun _ _ e => e)) (fun j hj => .inr hj)
      clear hu hpre
      go_simp
      refine hK _ _ ⟨_, _, _, rfl, Nat.le_refl _, row_F u (fun j => ok4 j ∨ ok j) [(tV 1, none, 0), (tA ⟨#[97, 32, 98]⟩, none, 0), (exL, A4, c4), (tC ⟨#[43]⟩ [tN 1, tN 2], A, c)] (by simp) (fun x hx => ?_)⟩ ((Stay.refl _ _).alloc _)
      simp only [List.mem_cons, List.mem_nil_iff, or_false] at hx
      rcases hx with rfl | rfl | rfl | rfl
      · exact ⟨Nat.le_refl _, F_nil _ _⟩
      · exact ⟨Nat.le_refl _, F_nil _ _⟩
      · exact ⟨Hc4.out, hF1⟩
      · exact ⟨hc, hF2⟩
    · intro listed a u hu hpre K hK
      obtain ⟨x, wi, ⟨A, c, ok, rfl, hc, hF⟩, hs, t21⟩ := hu.at hpre 7 21 rfl (by kernel_rfl)
      have t21 : a.tmps[21]? = some (.slice A 4 c) := t21
      clear hu hpre
      go_simp
      refine (c_lit _ _ _ _ _).mono ?_
      rintro e u' ⟨rfl, s⟩
      exact hK _ _ ⟨A, c, ok, rfl, hc, (hs.trans s (fun _ _ e => e)).F hF (fun _ _ e => e)⟩ s
    · intro listed a u hu hpre K hK
      obtain ⟨x, wi, hx, hs, t22⟩ := hu.at hpre 8 22 rfl (by kernel_rfl)
      have hLu : Laid u := (HL.out.stay HsW.out (fun _ _ e => e)).stay ((Stay.refl _ _).drew.trans hu.stay (fun _ _ e => e)) (fun _ _ e => e)
      have hx : TV exT x wi := hx
      clear hu hpre
      go_simp
      refine (text_tv (hx.stay hs) hLu (by kernel_rfl)).mono ?_
      rintro e u' ⟨rfl, s⟩
      exact hK _ _ rfl s
    · intro listed a u hu hpre K hK
      obtain ⟨x, wi, hx, hs, t23⟩ := hu.at hpre 9 23 rfl (by kernel_rfl)
      clear hu hpre
      go_simp
      exact hK _ _ hx (Stay.refl _ _)
    · intro listed a u hu hpre K hK
      obtain ⟨x, wi, hx, hs, t13⟩ := hu.at hpre 10 13 rfl (by kernel_rfl)
      obtain rfl : x = .tuple #[.string (bs (textR exT).1), .int .i64 (textR exT).2] := hx
      clear hu hpre
      go_simp
      exact hK _ _ rfl (Stay.refl _ _)
    · intro listed a u hu hpre K hK
      obtain ⟨x, wi, hx, hs, t13⟩ := hu.at hpre 10 13 rfl (by kernel_rfl)
      obtain rfl : x = .tuple #[.string (bs (textR exT).1), .int .i64 (textR exT).2] := hx
      clear hu hpre
      go_simp
      exact hK _ _ rfl (Stay.refl _ _)
    · intro listed a u hu hpre K hK
      obtain ⟨x, wi, hx, hs, t24⟩ := hu.at hpre 11 24 rfl (by kernel_rfl)
      clear hu hpre
      go_simp
      exact hK _ _ hx (Stay.refl _ _)
    · intro listed a u hu hpre K hK
      obtain ⟨x, wi, hx, hs, t25⟩ := hu.at hpre 12 25 rfl (by kernel_rfl)
      clear hu hpre
      go_simp
      exact hK _ _ hx (Stay.refl _ _)
  · intro vs w5 hv hs5
    obtain ⟨_, h13, _⟩ := hv 13 (by decide)
    obtain ⟨_, h14, _⟩ := hv 14 (by decide)
    have h13 : vs 13 = .string (bs (textR exT).1) := h13
    have h14 : vs 14 = .int .i64 (textR exT).2 := h14
    rw [exT_text] at h13 h14
    have h13 : vs 13 = .string ⟨#[102, 40, 95, 49, 44, 39, 97, 32, 98, 39, 44, 91, 49, 44, 45, 50, 124, 95, 51, 93, 44, 43, 40, 49, 44, 50, 41, 41]⟩ := h13
    have h14 : vs 14 = .int .i64 0 := h14
    have Hs5 := hide (HsW.out.trans ((Stay.refl _ _).drew.trans hs5 (fun _ _ e => e)) (fun _ _ e => e))
    clear hv hs5 HtbW HsW HFW Hc4
    simp only [putAll, List.length_cons, List.length_nil, List.getElem?_cons_zero, List.getElem?_cons_succ, Option.bind_some, Act.put, List.setIfInBounds_toArray, List.set_cons_zero, List.set_cons_succ, h13, h14]
    go_wp2_with fail
    refine (name_any _ _ (HL.out.stay Hs5.out (fun _ _ e => e))).mono ?_
    rintro e w6 ⟨he, s6⟩
    rw [exN_name] at he
    obtain rfl : e = .returned (.tuple #[.string ⟨#[39, 44, 39]⟩, .int .i64 0]) := he
    have Hs6 := hide (Hs5.out.trans s6 (fun _ _ e => e))
    clear s6 Hs5
    go_wp2_with fail
    refine (a_lit _ _).mono ?_
    rintro e w7 ⟨rfl, s7⟩
    have Hs7 := hide (Hs6.out.trans s7 (fun _ _ e => e))
    clear s7 Hs6
    go_wp2_with fail
    refine (c_lit _ _ _ _ _).mono ?_
    rintro e w8 ⟨rfl, s8⟩
    have htv : TV (tC ⟨#[91, 93]⟩ [tA ⟨#[97]⟩]) (.agg #[.int .i64 4, .string ⟨#[91, 93]⟩, .int .i64 0, .slice (some ⟨w7.heap.size, 0, none⟩) 1 1]) w8 :=
      ⟨_, _, _, rfl, Nat.le_refl _, s8.F (row_F w7 NoS [(tA ⟨#[97]⟩, none, 0)] (by decide) (fun x hx => by
        simp only [List.mem_cons, List.mem_nil_iff, or_false] at hx
        subst hx
        exact ⟨Nat.le_refl _, F_nil _ _⟩)) (fun _ _ e => e)⟩
    have Htv := hide htv
    have Hs8 := hide ((Hs7.out.alloc _).trans s8 (fun _ _ e => e))
    clear s8 Hs7 htv
    go_wp2_with fail
    refine (text_tv Htv.out (HL.out.stay Hs8.out (fun _ _ e => e)) (by kernel_rfl)).mono ?_
    rintro e w9 ⟨he, s9⟩
    rw [exQ_text] at he
    obtain rfl : e = .returned (.tuple #[.string ⟨#[39, 91, 93, 39, 40, 97, 41]⟩, .int .i64 0]) := he
    have Hs9 := hide (Hs8.out.trans s9 (fun _ _ e => e))
    clear s9 Hs8 Htv
    go_wp2_with fail
    go_ret
    exact ⟨rfl, Hs9.out⟩
end Go.Proofs.YtgidbplaoijalaaGreatRDoor

/- The lexer in plain Lean: a name's text, whatever stands behind it that goes on with no name, is one token. -/
namespace Go.Proofs.YtgidbplaoijalaaGreatRDoor
set_option linter.unusedSimpArgs false
set_option linter.unusedVariables false

/-- What stands behind goes on with no letter, no digit, no sign, no quote. -/
def stopB (r : List UInt8) : Prop := ∀ c s, r = c :: s → letterB (n8 c) = false ∧ signB c = false ∧ ¬ n8 c = 39
theorem stopB_nil : stopB [] := fun c s h => by cases h
theorem stopB_cons (c : UInt8) (s : List UInt8) (h : letterB (n8 c) = false ∧ signB c = false ∧ ¬ n8 c = 39) : stopB (c :: s) := fun c' s' e => by cases e; exact h

theorem sign_vals {c : UInt8} (h : signB c = true) : n8 c = 43 ∨ n8 c = 45 ∨ n8 c = 42 ∨ n8 c = 47 ∨ n8 c = 92 ∨ n8 c = 94 ∨ n8 c = 60 ∨ n8 c = 62 ∨ n8 c = 61 ∨ n8 c = 126 ∨ n8 c = 58 ∨ n8 c = 46 ∨ n8 c = 63 ∨ n8 c = 64 ∨ n8 c = 35 ∨ n8 c = 38 ∨ n8 c = 36 := by
  unfold signB signsL at h
  simp only [List.contains_cons, List.contains_nil, Bool.or_false, Bool.or_eq_true, beq_iff_eq] at h
  rcases h with h | h | h | h | h | h | h | h | h | h | h | h | h | h | h | h | h <;> subst h <;> decide
theorem punct_vals {c : UInt8} (h : punctB c = true) : n8 c = 40 ∨ n8 c = 41 ∨ n8 c = 91 ∨ n8 c = 93 ∨ n8 c = 123 ∨ n8 c = 125 ∨ n8 c = 44 ∨ n8 c = 124 := by
  unfold punctB punctL at h
  simp only [List.contains_cons, List.contains_nil, Bool.or_false, Bool.or_eq_true, beq_iff_eq] at h
  rcases h with h | h | h | h | h | h | h | h <;> subst h <;> decide
theorem n8_lt (c : UInt8) : 0 ≤ n8 c ∧ n8 c ≤ 255 := by
  have : c.toNat < 256 := UInt8.toNat_lt c
  unfold n8; omega
theorem n8_inj {c d : UInt8} (h : n8 c = n8 d) : c = d := by
  unfold n8 at h
  exact UInt8.toNat_inj.1 (by omega)
theorem small_vals {c : Int} (h : smallB c = true) : 97 ≤ c ∧ c ≤ 122 := by simpa [smallB] using h
theorem cap_vals {c : Int} (h : capB c = true) : 65 ≤ c ∧ c ≤ 90 ∨ c = 95 := by simpa [capB] using h
theorem digit_vals {c : Int} (h : digitB c = true) : 48 ≤ c ∧ c ≤ 57 := by simpa [digitB] using h

theorem runS_stop (p : Int → Bool) : ∀ l r : List UInt8, (∀ c ∈ l, p (n8 c) = true) → (∀ c s, r = c :: s → p (n8 c) = false) → runS p (l ++ r) = l.length
  | [], r, _, h => by
    cases r with
    | nil => rfl
    | cons c s => rw [List.nil_append, runS, h c s rfl]; rfl
  | c :: l, r, hl, h => by
    rw [List.cons_append, runS, hl c (by simp), if_pos rfl, runS_stop p l r (fun d hd => hl d (by simp [hd])) h, List.length_cons]
theorem runS_bd (p : Int → Bool) : ∀ l : List UInt8, runS p l ≤ l.length
  | [] => by simp [runS]
  | c :: l => by rw [runS]; split <;> simp [runS_bd p l]
theorem runS_all (p : Int → Bool) : ∀ l : List UInt8, runS p l = l.length → ∀ c ∈ l, p (n8 c) = true
  | [], _, c, hc => by simp at hc
  | d :: l, h, c, hc => by
    rw [runS] at h
    split at h
    · rename_i hp
      rcases List.mem_cons.1 hc with rfl | hc
      · exact hp
      · exact runS_all p l (by simpa using h) c hc
    · simp at h

theorem symS_bd : ∀ l : List UInt8, symS l ≤ l.length
  | [] => by simp [symS]
  | c :: l => by rw [symS]; split <;> simp [symS_bd l]
theorem symS_stop : ∀ l r : List UInt8, symS l = l.length → stopB r → symS (l ++ r) = l.length
  | [], r, _, h => by
    cases r with
    | nil => rfl
    | cons c s => rw [List.nil_append, symS, (h c s rfl).2.1]; rfl
  | c :: l, r, hl, h => by
    rw [symS] at hl
    split at hl
    · rename_i hp
      rw [List.cons_append, symS, if_pos, symS_stop l r (by simpa using hl) h, List.length_cons]
      simp only [Bool.and_eq_true, Bool.not_eq_true', Bool.and_eq_false_iff, beq_eq_false_iff_ne] at hp ⊢
      refine ⟨hp.1, ?_⟩
      rcases hp.2 with h1 | h1
      · exact .inl h1
      · right
        cases l with
        | cons d l => simpa [pk] using h1
        | nil =>
          cases r with
          | nil => simp [pk, n8]
          | cons d s =>
            intro e
            have := (h d s rfl).2.1
            rw [show d = 42 from n8_inj (show n8 d = 42 by simpa [pk] using e)] at this
            cases this
    · simp at hl

/-- The bytes of a name that is one token. -/
def bareL (l : List UInt8) : Prop :=
  ∃ c s, l = c :: s ∧ ((smallB (n8 c) = true ∧ ∀ d ∈ l, letterB (n8 d) = true) ∨ ((n8 c = 33 ∨ n8 c = 59) ∧ s = []) ∨ (signB c = true ∧ symS l = l.length ∧ ¬ (n8 c = 46 ∧ (l.length = 1 ∨ blankB (pk l 1) = true ∨ pk l 1 = 37))))

theorem take_all {l : List UInt8} {n m : Nat} (h : (l.drop n).take m = l) (hne : l.drop n ≠ []) : n = 0 ∧ l.length ≤ m := by
  have h1 := congrArg List.length h
  rw [List.length_take, List.length_drop] at h1
  have h2 : 0 < (l.drop n).length := by
    rcases Nat.eq_zero_or_pos (l.drop n).length with h | h
    · exact absurd (List.length_eq_zero_iff.1 h) hne
    · exact h
  rw [List.length_drop] at h2
  omega

theorem tok_plain {r : List UInt8} {p : Int} {t : Tok} {m : Nat} (hne : r ≠ []) (h : tokS r p = .ok (t, m)) (hk : t.kind = 1) (hq : t.quoted = false) :
    t.text = bs (r.take m) ∧ m ≤ r.length ∧ (r.length = m → bareL r) := by
  obtain ⟨c, s, rfl⟩ := List.exists_cons_of_ne_nil hne
  unfold tokS at h
  simp only [List.getD_cons_zero] at h
  by_cases h1 : smallB (n8 c) = true
  · rw [if_pos h1] at h
    injection h with h; injection h with ha hb
    subst ha hb
    exact ⟨rfl, runS_bd _ _, fun hm => ⟨c, s, rfl, .inl ⟨h1, runS_all _ _ hm.symm⟩⟩⟩
  rw [if_neg h1] at h
  by_cases h2 : capB (n8 c) = true
  · rw [if_pos h2] at h
    injection h with h; injection h with ha hb
    subst ha
    cases hk
  rw [if_neg h2] at h
  by_cases h3 : digitB (n8 c) = true
  · rw [if_pos h3] at h
    cases hn : numS (c :: s) p with
    | error e => rw [hn] at h; cases h
    | ok q => rw [hn] at h; injection h with h; injection h with ha hb; subst ha; cases hk
  rw [if_neg h3] at h
  by_cases h4 : punctB c = true
  · rw [if_pos h4] at h
    injection h with h; injection h with ha hb; subst ha; cases hk
  rw [if_neg h4] at h
  by_cases h5 : n8 c = 33 ∨ n8 c = 59
  · rw [if_pos h5] at h
    injection h with h; injection h with ha hb
    subst ha hb
    exact ⟨rfl, by simp, fun hm => ⟨c, s, rfl, .inr (.inl ⟨h5, List.length_eq_zero_iff.1 (by simpa using hm)⟩)⟩⟩
  rw [if_neg h5] at h
  by_cases h6 : n8 c = 39
  · rw [if_pos h6] at h
    cases hn : quotS ((c :: s).length + 1) ((c :: s).drop 1) p (p + 1) with
    | error e => rw [hn] at h; cases h
    | ok q => rw [hn] at h; injection h with h; injection h with ha hb; subst ha; cases hq
  rw [if_neg h6] at h
  by_cases h7 : n8 c = 46 ∧ ((c :: s).length = 1 ∨ blankB (pk (c :: s) 1) = true ∨ pk (c :: s) 1 = 37)
  · rw [if_pos h7] at h
    injection h with h; injection h with ha hb; subst ha; cases hk
  rw [if_neg h7] at h
  by_cases h8 : signB c = true
  · rw [if_pos h8] at h
    injection h with h; injection h with ha hb
    subst ha hb
    exact ⟨rfl, symS_bd _, fun hm => ⟨c, s, rfl, .inr (.inr ⟨h8, hm.symm, h7⟩)⟩⟩
  · rw [if_neg h8] at h
    cases h

theorem bare_list {nm : ByteArray} (h : bareS nm = true) : bareL nm.data.toList := by
  unfold bareS tokensS at h
  by_cases hs : 16384 < nm.size
  · rw [if_pos hs] at h; cases h
  rw [if_neg hs] at h
  generalize nm.data.toList = l at h ⊢
  rw [toksS] at h
  cases hk : skipS (l.length + 1) l with
  | error e => rw [hk] at h; cases h
  | ok q =>
    obtain ⟨_, n⟩ := q
    rw [hk] at h
    simp only at h
    by_cases hn : l.drop n = []
    · rw [if_pos hn] at h; cases h
    rw [if_neg hn] at h
    cases ht : tokS (l.drop n) (0 + n) with
    | error e => rw [ht] at h; cases h
    | ok q =>
      obtain ⟨t, m⟩ := q
      rw [ht] at h
      simp only at h
      by_cases hl : (t.kind = 1 ∨ t.kind = 2) ∧ 64 < t.text.size
      · rw [if_pos hl] at h; cases h
      rw [if_neg hl] at h
      cases hr : toksS nm.size ((l.drop n).drop m) (0 + n + m) false with
      | error e => rw [hr] at h; cases h
      | ok ts =>
        rw [hr] at h
        cases ts with
        | cons x y => cases h
        | nil =>
          simp only [Except.map, Bool.and_eq_true, beq_iff_eq, Bool.not_eq_true'] at h
          obtain ⟨⟨h1, h2⟩, h3⟩ := h
          obtain ⟨ha, hb, hc⟩ := tok_plain hn ht h1 h2
          rw [ha, bs_list] at h3
          obtain ⟨rfl, h5⟩ := take_all h3 hn
          exact hc (by simp at hb ⊢; omega)

theorem small_letter {c : Int} (h : smallB c = true) : letterB c = true := by simp [letterB, h]

/-- A bare name's token. -/
theorem tok_bare {l r : List UInt8} (h : bareL l) (hr : stopB r) (p : Int) : tokS (l ++ r) p = .ok (⟨1, bs l, 0, p, false, false⟩, l.length) := by
  obtain ⟨c, s, rfl, h⟩ := h
  unfold tokS
  simp only [List.cons_append, List.getD_cons_zero]
  have hc := n8_lt c
  rcases h with ⟨h1, h2⟩ | ⟨h1, rfl⟩ | ⟨h1, h2, h3⟩
  · have hrun : runS letterB (c :: (s ++ r)) = (c :: s).length := runS_stop letterB (c :: s) r h2 (fun d u e => (hr d u e).1)
    rw [if_pos h1, hrun]
    rw [← List.cons_append, List.take_left]
  · have e1 : ¬ smallB (n8 c) = true := fun e => by have := small_vals e; omega
    have e2 : ¬ capB (n8 c) = true := fun e => by have := cap_vals e; omega
    have e3 : ¬ digitB (n8 c) = true := fun e => by have := digit_vals e; omega
    have e4 : ¬ punctB c = true := fun e => by have := punct_vals e; omega
    rw [if_neg e1, if_neg e2, if_neg e3, if_neg e4, if_pos h1]
    rfl
  · have hv := sign_vals h1
    have e1 : ¬ smallB (n8 c) = true := fun e => by have := small_vals e; omega
    have e2 : ¬ capB (n8 c) = true := fun e => by have := cap_vals e; omega
    have e3 : ¬ digitB (n8 c) = true := fun e => by have := digit_vals e; omega
    have e4 : ¬ punctB c = true := fun e => by have := punct_vals e; omega
    have e5 : ¬ (n8 c = 33 ∨ n8 c = 59) := by omega
    have e6 : ¬ n8 c = 39 := by omega
    have e7 : ¬ (n8 c = 46 ∧ ((c :: (s ++ r)).length = 1 ∨ blankB (pk (c :: (s ++ r)) 1) = true ∨ pk (c :: (s ++ r)) 1 = 37)) := by
      rintro ⟨h46, h4⟩
      apply h3
      refine ⟨h46, ?_⟩
      cases s with
      | nil => exact .inl rfl
      | cons d s =>
        rcases h4 with h4 | h4
        · simp at h4
        · right
          simpa [pk] using h4
    rw [if_neg e1, if_neg e2, if_neg e3, if_neg e4, if_neg e5, if_neg e6, if_neg e7, if_pos h1]
    have := symS_stop (c :: s) r h2 hr
    rw [List.cons_append] at this
    rw [this, ← List.cons_append, List.take_left]

theorem skip_none {c : UInt8} {s : List UInt8} (f : Nat) (h1 : blankB (n8 c) = false) (h2 : ¬ n8 c = 37) (h3 : ¬ (n8 c = 47 ∧ pk (c :: s) 1 = 42)) : skipS (f + 1) (c :: s) = .ok ((), 0) := by
  rw [skipS, h1, if_neg (by decide), if_neg h2, if_neg h3]
theorem blank_vals {c : Int} (h : blankB c = true) : c = 9 ∨ c = 10 ∨ c = 13 ∨ c = 32 := by
  simp [blankB] at h
  omega
theorem not_blank {c : Int} (h : ¬ (c = 9 ∨ c = 10 ∨ c = 13 ∨ c = 32)) : blankB c = false := by
  cases hb : blankB c with
  | false => rfl
  | true => exact absurd (blank_vals hb) h

theorem bare_head {l : List UInt8} (h : bareL l) : ∃ c s, l = c :: s ∧ (97 ≤ n8 c ∧ n8 c ≤ 122 ∨ n8 c = 33 ∨ n8 c = 59 ∨ signB c = true) := by
  obtain ⟨c, s, rfl, h⟩ := h
  refine ⟨c, s, rfl, ?_⟩
  rcases h with ⟨h1, _⟩ | ⟨h1, _⟩ | ⟨h1, _⟩
  · exact .inl (small_vals h1)
  · omega
  · exact .inr (.inr (.inr h1))

theorem skip_bare {l r : List UInt8} (h : bareL l) (hr : stopB r) (f : Nat) : skipS (f + 1) (l ++ r) = .ok ((), 0) := by
  obtain ⟨c, s, rfl, h⟩ := h
  rw [List.cons_append]
  rcases h with ⟨h1, h2⟩ | ⟨h1, rfl⟩ | ⟨h1, h2, h3⟩
  · have := small_vals h1
    exact skip_none f (not_blank (by omega)) (by omega) (fun e => by omega)
  · exact skip_none f (not_blank (by omega)) (by omega) (fun e => by omega)
  · have hv := sign_vals h1
    refine skip_none f (not_blank (by omega)) (by omega) (fun e => ?_)
    cases s with
    | cons d s =>
      rw [symS] at h2
      have e2 : pk (c :: d :: s) 1 = 42 := by simpa [pk] using e.2
      simp [e.1, e2] at h2
    | nil =>
      cases r with
      | nil => simp [pk, n8] at e
      | cons d u =>
        have := (hr d u rfl).2.1
        rw [show d = 42 from n8_inj (show n8 d = 42 by simpa [pk] using e.2)] at this
        cases this

/-! Quoted names. -/
theorem quot_back : ∀ (l r : List UInt8) (f : Nat) (o p : Int), l.any badC = false → (∀ c s, r = c :: s → ¬ n8 c = 39) → l.length < f →
    quotS f (l.flatMap escC ++ 39 :: r) o p = .ok (l, (l.flatMap escC).length + 1)
  | [], r, 0, o, p, _, _, hf => by simp at hf
  | [], r, f + 1, o, p, _, hr, _ => by
    rw [List.flatMap_nil, List.nil_append, quotS]
    rw [if_pos]
    · rfl
    · refine ⟨by decide, ?_⟩
      cases r with
      | nil => simp [pk, n8]
      | cons c s => simpa [pk] using hr c s rfl
  | c :: l, r, 0, o, p, _, _, hf => by simp at hf
  | c :: l, r, f + 1, o, p, hb, hr, hf => by
    rw [List.any_cons, Bool.or_eq_false_iff] at hb
    have ih := fun q => quot_back l r f o q hb.2 hr (by simpa using hf)
    have hc := n8_lt c
    have hbc : n8 c = 9 ∨ n8 c = 10 ∨ 32 ≤ n8 c ∧ n8 c ≤ 126 := by
      have h1 := hb.1
      unfold badC at h1
      simp only [Bool.and_eq_false_iff, bne_eq_false_iff_eq, Bool.or_eq_false_iff, decide_eq_false_iff_not] at h1
      omega
    rw [List.flatMap_cons]
    have hesc : escC c = if n8 c = 9 then [92, 116] else if n8 c = 10 then [92, 110] else if n8 c = 39 ∨ n8 c = 92 then [92, c] else [c] := rfl
    rw [hesc]
    by_cases h9 : n8 c = 9
    · have hc9 : c = 9 := n8_inj h9
      subst hc9
      rw [if_pos (by decide)]
      simp only [List.cons_append, List.nil_append]
      rw [quotS, if_neg (fun e => absurd e.1 (by decide)), if_neg (by decide), if_neg (by decide), if_pos (by decide)]
      have he : escS ((92 : UInt8) :: 116 :: (l.flatMap escC ++ 39 :: r)) = .ok 9 := by
        unfold escS
        rw [if_neg (by simp), if_neg (by simp [pk, n8]), if_pos (by simp [pk, n8])]
      rw [he]
      simp only [List.drop_one, List.tail_cons]
      rw [ih]
      simp [Except.map]
    by_cases h10 : n8 c = 10
    · have hc9 : c = 10 := n8_inj h10
      subst hc9
      rw [if_neg (by decide), if_pos (by decide)]
      simp only [List.cons_append, List.nil_append]
      rw [quotS, if_neg (fun e => absurd e.1 (by decide)), if_neg (by decide), if_neg (by decide), if_pos (by decide)]
      have he : escS ((92 : UInt8) :: 110 :: (l.flatMap escC ++ 39 :: r)) = .ok 10 := by
        unfold escS
        rw [if_neg (by simp), if_pos (by simp [pk, n8])]
      rw [he]
      simp only [List.drop_one, List.tail_cons]
      rw [ih]
      simp [Except.map]
    rw [if_neg h9, if_neg h10]
    by_cases h39 : n8 c = 39 ∨ n8 c = 92
    · rw [if_pos h39]
      simp only [List.cons_append, List.nil_append]
      rw [quotS, if_neg (fun e => absurd e.1 (by decide)), if_neg (by decide), if_neg (by decide), if_pos (by decide)]
      have he : escS ((92 : UInt8) :: c :: (l.flatMap escC ++ 39 :: r)) = .ok c := by
        unfold escS
        have hp : pk ((92 : UInt8) :: c :: (l.flatMap escC ++ 39 :: r)) 1 = n8 c := by simp [pk]
        rw [if_neg (by simp), hp, if_neg (by omega), if_neg (by omega), if_pos (by omega)]
        rfl
      rw [he]
      simp only [List.drop_one, List.tail_cons]
      rw [ih]
      simp [Except.map]
    · rw [if_neg h39]
      simp only [List.cons_append, List.nil_append]
      rw [quotS, if_neg (by omega), if_neg (by omega), if_pos (by omega), ih]
      simp [Except.map]

theorem tok_quote {nm : ByteArray} {r : List UInt8} (h : badS nm = false) (hr : stopB r) (p : Int) : tokS (quoteS nm ++ r) p = .ok (⟨1, nm, 0, p, true, false⟩, (quoteS nm).length) := by
  unfold quoteS
  have hq := quot_back nm.data.toList r
  unfold tokS
  simp only [List.cons_append, List.getD_cons_zero, List.append_assoc, List.nil_append]
  rw [if_neg (by decide), if_neg (by decide), if_neg (by decide), if_neg (by decide), if_neg (by decide), if_pos (by decide)]
  simp only [List.drop_one, List.tail_cons]
  rw [hq _ _ _ h (fun c s e => (hr c s e).2.2) ?_]
  · simp [Except.map, bs_of]
  · have : nm.data.toList.length ≤ (nm.data.toList.flatMap escC).length := by
      generalize nm.data.toList = l
      induction l with
      | nil => simp
      | cons c l ih =>
        have : 1 ≤ (escC c).length := by unfold escC; split <;> (try split) <;> (try split) <;> simp
        simp only [List.flatMap_cons, List.length_append, List.length_cons]
        omega
    simp only [List.length_cons, List.length_append, List.length_flatMap] at this ⊢
    omega
theorem skip_quote {nm : ByteArray} {r : List UInt8} (f : Nat) : skipS (f + 1) (quoteS nm ++ r) = .ok ((), 0) := by
  unfold quoteS
  rw [List.cons_append]
  exact skip_none f (by decide) (by decide) (fun e => by simp [n8] at e)

/-- A name's text, as it stands ahead of arguments, is one token. -/
theorem tok_functor {nm : ByteArray} {r : List UInt8} (h : badS nm = false) (hr : stopB r) (p : Int) :
    tokS (functorS nm ++ r) p = .ok (⟨1, nm, 0, p, !bareS nm, false⟩, (functorS nm).length) := by
  unfold functorS
  cases hb : bareS nm with
  | true =>
    rw [if_pos rfl, tok_bare (bare_list hb) hr p, bs_of]
    rfl
  | false =>
    rw [if_neg (by decide), tok_quote h hr p]
    rfl
theorem skip_functor {nm : ByteArray} {r : List UInt8} (hr : stopB r) (f : Nat) : skipS (f + 1) (functorS nm ++ r) = .ok ((), 0) := by
  unfold functorS
  cases hb : bareS nm with
  | true => rw [if_pos rfl]; exact skip_bare (bare_list hb) hr f
  | false => rw [if_neg (by decide)]; exact skip_quote f
theorem functor_head (nm : ByteArray) : ∃ c s, functorS nm = c :: s ∧ (97 ≤ n8 c ∧ n8 c ≤ 122 ∨ n8 c = 33 ∨ n8 c = 59 ∨ n8 c = 39 ∨ signB c = true) := by
  unfold functorS
  cases hb : bareS nm with
  | true =>
    rw [if_pos rfl]
    obtain ⟨c, s, h1, h2⟩ := bare_head (bare_list hb)
    exact ⟨c, s, h1, by rcases h2 with h | h | h | h <;> simp [h]⟩
  | false =>
    rw [if_neg (by decide)]
    exact ⟨39, _, rfl, .inr (.inr (.inr (.inl (by decide))))⟩
end Go.Proofs.YtgidbplaoijalaaGreatRDoor

/- Terms have the same text just if they are the same: in plain Lean. -/
namespace Go.Proofs.YtgidbplaoijalaaGreatRDoor
set_option linter.unusedSimpArgs false
set_option linter.unusedVariables false

theorem decS_snoc (l : List UInt8) (c : UInt8) : decS (l ++ [c]) = decS l * 10 + (c.toNat - 48) := by
  unfold decS; rw [List.foldl_append]; rfl
theorem dec_dig (u : Nat) : ∀ c ∈ Lib.decDigits u, digitB (n8 c) = true := by
  induction u using Nat.strongRecOn with
  | _ u ih =>
    rw [Lib.decDigits]
    have hd : ∀ k, k < 10 → digitB (n8 (UInt8.ofNat (48 + k))) = true := by decide
    split
    · rename_i h
      intro c hc
      rw [List.mem_singleton] at hc
      subst hc
      exact hd u h
    · rename_i h
      intro c hc
      rcases List.mem_append.1 hc with hc | hc
      · exact ih (u / 10) (by omega) c hc
      · rw [List.mem_singleton] at hc
        subst hc
        exact hd (u % 10) (by omega)
theorem decS_dec (u : Nat) : decS (Lib.decDigits u) = u := by
  induction u using Nat.strongRecOn with
  | _ u ih =>
    have hd : ∀ k, k < 10 → (UInt8.ofNat (48 + k)).toNat - 48 = k := by decide
    rw [Lib.decDigits]
    split
    · rename_i h
      have := hd u h
      simp only [decS, List.foldl_cons, List.foldl_nil]
      omega
    · rename_i h
      rw [decS_snoc, ih (u / 10) (by omega), hd (u % 10) (by omega)]
      omega
theorem dec_ne (u : Nat) : ∃ c s, Lib.decDigits u = c :: s ∧ 48 ≤ n8 c ∧ n8 c ≤ 57 := by
  have hl := Lib.decDigits_length u
  have hp := Lib.nDigits_pos u
  have hd := dec_dig u
  cases h : Lib.decDigits u with
  | nil => rw [h] at hl; simp at hl; omega
  | cons c s =>
    rw [h] at hd
    exact ⟨c, s, rfl, digit_vals (hd c (by simp))⟩

theorem stop_digit {r : List UInt8} (h : stopB r) : ∀ c s, r = c :: s → digitB (n8 c) = false := fun c s e => by
  have := (h c s e).1
  unfold letterB at this
  simp only [Bool.or_eq_false_iff] at this
  exact this.2
theorem dec_split {u v : Nat} {r r' : List UInt8} (hr : stopB r) (hr' : stopB r') (h : Lib.decDigits u ++ r = Lib.decDigits v ++ r') : u = v ∧ r = r' := by
  have h1 := runS_stop digitB (Lib.decDigits u) r (dec_dig u) (stop_digit hr)
  have h2 := runS_stop digitB (Lib.decDigits v) r' (dec_dig v) (stop_digit hr')
  rw [h, h2] at h1
  obtain ⟨h3, h4⟩ := List.append_inj h h1.symm
  have := congrArg decS h3
  rw [decS_dec, decS_dec] at this
  exact ⟨this, h4⟩
/-- A number's text: its digits, or - and its digits. -/
theorem itoa_cases (i : Int) : (0 ≤ i ∧ Lib.itoa i = Lib.decDigits i.toNat) ∨ (i < 0 ∧ Lib.itoa i = 45 :: Lib.decDigits i.natAbs) := by
  unfold Lib.itoa
  by_cases h : i < 0
  · exact .inr ⟨h, by rw [if_pos h]⟩
  · exact .inl ⟨by omega, by rw [if_neg h]⟩
theorem itoa_split {i j : Int} {r r' : List UInt8} (hr : stopB r) (hr' : stopB r') (h : Lib.itoa i ++ r = Lib.itoa j ++ r') : i = j ∧ r = r' := by
  rcases itoa_cases i with ⟨hi, ei⟩ | ⟨hi, ei⟩ <;> rcases itoa_cases j with ⟨hj, ej⟩ | ⟨hj, ej⟩ <;> rw [ei, ej] at h
  · obtain ⟨h1, h2⟩ := dec_split hr hr' h
    exact ⟨by omega, h2⟩
  · exfalso
    obtain ⟨c, s, hc, h1, h2⟩ := dec_ne i.toNat
    rw [hc] at h
    simp only [List.cons_append, List.cons.injEq] at h
    rw [h.1] at h1 h2
    exact absurd h1 (by decide)
  · exfalso
    obtain ⟨c, s, hc, h1, h2⟩ := dec_ne j.toNat
    rw [hc] at h
    simp only [List.cons_append, List.cons.injEq] at h
    rw [← h.1] at h1 h2
    exact absurd h1 (by decide)
  · simp only [List.cons_append, List.cons.injEq, true_and] at h
    obtain ⟨h1, h2⟩ := dec_split hr hr' h
    exact ⟨by omega, h2⟩

/-- What stands behind a term within a text. -/
def endB (r : List UInt8) : Prop := ∀ c s, r = c :: s → n8 c = 41 ∨ n8 c = 44 ∨ n8 c = 93 ∨ n8 c = 124
theorem endB_nil : endB [] := fun c s h => by cases h
theorem endB_cons (c : UInt8) (s : List UInt8) (h : n8 c = 41 ∨ n8 c = 44 ∨ n8 c = 93 ∨ n8 c = 124) : endB (c :: s) := fun c' s' e => by cases e; exact h
theorem stop_of_vals (c : UInt8) (h : n8 c = 41 ∨ n8 c = 44 ∨ n8 c = 93 ∨ n8 c = 124 ∨ n8 c = 40 ∨ n8 c = 32 ∨ n8 c = 10) : letterB (n8 c) = false ∧ signB c = false ∧ ¬ n8 c = 39 := by
  refine ⟨?_, ?_, by omega⟩
  · cases hl : letterB (n8 c) with
    | false => rfl
    | true =>
      unfold letterB at hl
      simp only [Bool.or_eq_true] at hl
      rcases hl with (hl | hl) | hl
      · have := small_vals hl; omega
      · have := cap_vals hl; omega
      · have := digit_vals hl; omega
  · cases hl : signB c with
    | false => rfl
    | true => have := sign_vals hl; omega
theorem endB.stop {r : List UInt8} (h : endB r) : stopB r := fun c s e => stop_of_vals c (by have := h c s e; omega)

/-- Names' texts ahead of what goes on with no name. -/
theorem functor_split {a b : ByteArray} {r r' : List UInt8} (ha : badS a = false) (hb : badS b = false) (hr : stopB r) (hr' : stopB r') (h : functorS a ++ r = functorS b ++ r') : a = b ∧ r = r' := by
  have h1 := tok_functor ha hr 0
  have h2 := tok_functor hb hr' 0
  rw [h, h2] at h1
  injection h1 with h1
  injection h1 with h3 h4
  injection h3 with _ h5
  exact ⟨h5.symm, (List.append_inj h (by omega)).2⟩

theorem digit_letter {c : Int} (h : 48 ≤ c ∧ c ≤ 57) : letterB c = true := by
  have : digitB c = true := by simp [digitB]; exact h
  simp [letterB, this]

/-- A name's text is no number's. -/
theorem functor_itoa {a : ByteArray} {i : Int} {r r' : List UInt8} (ha : badS a = false) (hr : stopB r) (hr' : stopB r') (h : functorS a ++ r = Lib.itoa i ++ r') : False := by
  obtain ⟨c, s, hf, hc⟩ := functor_head a
  rcases itoa_cases i with ⟨hi, ei⟩ | ⟨hi, ei⟩ <;> rw [ei] at h
  · obtain ⟨d, u, hd, h1, h2⟩ := dec_ne i.toNat
    rw [hf, hd] at h
    simp only [List.cons_append, List.cons.injEq] at h
    rw [← h.1] at h1 h2
    rcases hc with h | h | h | h | h
    · omega
    · omega
    · omega
    · omega
    · have := sign_vals h; omega
  · obtain ⟨d, u, hd, h1, h2⟩ := dec_ne i.natAbs
    have ht := tok_functor ha hr 0
    rw [h, hd] at ht
    unfold tokS at ht
    simp only [List.cons_append, List.getD_cons_zero] at ht
    rw [if_neg (by decide), if_neg (by decide), if_neg (by decide), if_neg (by decide), if_neg (by decide), if_neg (by decide), if_neg (fun e => absurd e.1 (by decide)), if_pos (by decide)] at ht
    injection ht with ht
    injection ht with _ hl
    have hsg : signB d = false := by
      cases hs : signB d with
      | false => rfl
      | true => have := sign_vals hs; omega
    have hsy : symS (45 :: d :: (u ++ r')) = 1 := by
      rw [symS, symS, hsg]
      rfl
    rw [hsy] at hl
    rw [hf] at hl
    simp at hl
    have : s = [] := by
      cases s with
      | nil => rfl
      | cons _ _ => simp at hl
    rw [hf, this, hd] at h
    simp only [List.cons_append, List.nil_append, List.cons.injEq] at h
    have := (hr d _ h.2).1
    rw [digit_letter ⟨h1, h2⟩] at this
    cases this

/-- A term's text by its form. -/
def Shape (t : Tm) : Prop :=
  (t.kind = 1 ∧ termS t = 95 :: Lib.itoa t.int) ∨ (t.kind = 2 ∧ termS t = Lib.itoa t.int) ∨
  (t.kind = 3 ∧ t.name = nilN ∧ termS t = [91, 93]) ∨ (t.kind = 3 ∧ t.name = (⟨#[123, 125]⟩ : ByteArray) ∧ termS t = [123, 125]) ∨
  (t.kind = 3 ∧ badS t.name = false ∧ termS t = functorS t.name) ∨
  (t.kind = 4 ∧ t.name = dotN ∧ ∃ a b, t.args = [a, b] ∧ plainR a = true ∧ failS a = false ∧ plainR b = true ∧ failS b = false ∧ termS t = 91 :: (termS a ++ tailS b ++ [93])) ∨
  (t.kind = 4 ∧ badS t.name = false ∧ t.args ≠ [] ∧ plainL t.args = true ∧ failL t.args = false ∧ termS t = functorS t.name ++ 40 :: (allS t.args ++ [41]))

theorem failL_mem {ts : List Tm} (h : failL ts = false) : ∀ t ∈ ts, failS t = false := by
  induction ts with
  | nil => intro t ht; cases ht
  | cons x xs ih =>
    rw [failL, Bool.or_eq_false_iff] at h
    intro t ht
    rcases List.mem_cons.1 ht with rfl | ht
    · exact h.1
    · exact ih h.2 t ht

theorem shape (t : Tm) (hp : plainR t = true) (hf : failS t = false) : Shape t := by
  obtain ⟨k, nm, i, ts⟩ := t
  have he := termS_eq ⟨k, nm, i, ts⟩
  rw [plainR] at hp
  rw [failS] at hf
  simp only at he
  unfold Shape
  by_cases h1 : k = 1
  · rw [if_pos h1] at he
    exact .inl ⟨h1, he⟩
  rw [if_neg h1] at he hp
  by_cases h2 : k = 2
  · rw [if_pos h2] at he
    exact .inr (.inl ⟨h2, he⟩)
  rw [if_neg h2] at he hp
  by_cases h3 : k = 3
  · rw [if_pos h3] at he hf
    right; right
    unfold atomS at he
    by_cases hn : nm = nilN
    · left
      rw [if_pos (.inl hn)] at he
      exact ⟨h3, hn, he.trans (by rw [hn]; rfl)⟩
    by_cases hb : nm = (⟨#[123, 125]⟩ : ByteArray)
    · right; left
      rw [if_pos (.inr hb)] at he
      exact ⟨h3, hb, he.trans (by rw [hb])⟩
    · right; right; left
      rw [if_neg (fun e => e.elim hn hb)] at he
      exact ⟨h3, hf, he⟩
  rw [if_neg h3] at he hp hf
  by_cases h4 : k = 4
  · rw [if_pos h4] at he hp hf
    rw [Bool.or_eq_false_iff] at hf
    simp only [Bool.and_eq_true, decide_eq_true_eq] at hp
    obtain ⟨⟨⟨hp1, hp2⟩, hp3⟩, hp4⟩ := hp
    right; right; right; right; right
    by_cases hd : nm = dotN ∧ ts.length = 2
    · left
      rw [if_pos hd] at he
      obtain ⟨hd1, hd2⟩ := hd
      match ts, hd2 with
      | [a, b], _ =>
        rw [plainL, plainL, plainL, Bool.and_true, Bool.and_eq_true] at hp4
        rw [failL, failL, failL, Bool.or_false, Bool.or_eq_false_iff] at hf
        rw [pairS_two] at he
        exact ⟨h4, hd1, a, b, rfl, hp4.1, hf.2.1, hp4.2, hf.2.2, he⟩
    · right
      rw [if_neg hd] at he
      exact ⟨h4, hf.1, by intro e; simp only at e; subst e; simp at hp2, hp4, hf.2, he⟩
  · rw [if_neg h4] at hp
    cases hp

/-- The first bytes of a term's text. -/
def HeadC (c : UInt8) (s : List UInt8) : Prop :=
  n8 c = 95 ∨ (48 ≤ n8 c ∧ n8 c ≤ 57) ∨ n8 c = 45 ∨ n8 c = 91 ∨ n8 c = 123 ∨ (97 ≤ n8 c ∧ n8 c ≤ 122 ∨ n8 c = 33 ∨ n8 c = 59 ∨ n8 c = 39 ∨ signB c = true)
theorem term_head (t : Tm) (hp : plainR t = true) (hf : failS t = false) : ∃ c s, termS t = c :: s ∧ HeadC c s := by
  rcases shape t hp hf with ⟨_, h⟩ | ⟨_, h⟩ | ⟨_, _, h⟩ | ⟨_, _, h⟩ | ⟨_, _, h⟩ | ⟨_, _, a, b, _, _, _, _, _, h⟩ | ⟨_, _, _, _, _, h⟩
  · exact ⟨_, _, h, .inl (by decide)⟩
  · rcases itoa_cases t.int with ⟨_, e⟩ | ⟨_, e⟩
    · obtain ⟨c, s, h1, h2⟩ := dec_ne t.int.toNat
      exact ⟨c, s, by rw [h, e, h1], .inr (.inl h2)⟩
    · exact ⟨45, _, by rw [h, e], .inr (.inr (.inl (by decide)))⟩
  · exact ⟨_, _, h, .inr (.inr (.inr (.inl (by decide))))⟩
  · exact ⟨_, _, h, .inr (.inr (.inr (.inr (.inl (by decide)))))⟩
  · obtain ⟨c, s, h1, h2⟩ := functor_head t.name
    exact ⟨c, s, by rw [h, h1], .inr (.inr (.inr (.inr (.inr h2))))⟩
  · exact ⟨_, _, h, .inr (.inr (.inr (.inl (by decide))))⟩
  · obtain ⟨c, s, h1, h2⟩ := functor_head t.name
    exact ⟨c, _, by rw [h, h1, List.cons_append], .inr (.inr (.inr (.inr (.inr h2))))⟩
theorem head_ne {c : UInt8} {s : List UInt8} (h : HeadC c s) : ¬ n8 c = 93 ∧ ¬ n8 c = 41 ∧ ¬ n8 c = 44 ∧ ¬ n8 c = 124 ∧ ¬ n8 c = 40 := by
  unfold HeadC at h
  have : signB c = true → ¬ n8 c = 93 ∧ ¬ n8 c = 41 ∧ ¬ n8 c = 44 ∧ ¬ n8 c = 124 ∧ ¬ n8 c = 40 := fun h => by have := sign_vals h; omega
  rcases h with h | h | h | h | h | h | h | h | h | h
  all_goals first | exact this h | omega

theorem tail_end (t : Tm) (r : List UInt8) : endB (tailS t ++ 93 :: r) := by
  rw [tailS_eq]
  split
  · exact endB_cons _ _ (by decide)
  · split
    · exact endB_cons _ _ (by decide)
    · exact endB_cons _ _ (by decide)

/-- Which form's first byte is which. -/
def lead (t : Tm) : Nat := if t.kind = 1 then 1 else if t.kind = 2 then 2 else if t.kind = 3 ∧ (t.name = nilN ∨ t.name = (⟨#[123, 125]⟩ : ByteArray)) ∨ t.kind = 4 ∧ t.name = dotN ∧ t.args.length = 2 then 3 else 4

theorem cons_ne {c d : UInt8} {s u : List UInt8} (h : c :: s = d :: u) (hn : ¬ n8 c = n8 d) : False := by
  injection h with h1 h2
  exact hn (by rw [h1])

/-- Unlike forms have unlike texts. -/
theorem unlike (t u : Tm) (ht : Shape t) (hu : Shape u) (r r' : List UInt8) (hr : stopB r) (hr' : stopB r') (h : termS t ++ r = termS u ++ r') :
    (t.kind = 1 → u.kind = 1) ∧ (t.kind = 2 → u.kind = 2) := by
  have key : ∀ (t u : Tm), Shape t → Shape u → ∀ (r r' : List UInt8), stopB r → stopB r' → termS t ++ r = termS u ++ r' → (t.kind = 1 → u.kind = 1) ∧ (t.kind = 2 → u.kind = 2) := by
    clear h hr hr' ht hu t u r r'
    intro t u ht hu r r' hr hr' h
    have s40 : ∀ x, stopB (40 :: x) := fun x => stopB_cons _ _ (stop_of_vals _ (by decide))
    constructor
    · intro hk
      rcases ht with ⟨_, ht⟩ | ⟨hk2, _⟩ | ⟨hk2, _⟩ | ⟨hk2, _⟩ | ⟨hk2, _⟩ | ⟨hk2, _⟩ | ⟨hk2, _⟩
      · rw [ht] at h
        rcases hu with ⟨hk, _⟩ | ⟨_, hu⟩ | ⟨_, _, hu⟩ | ⟨_, _, hu⟩ | ⟨_, hb, hu⟩ | ⟨_, _, a, b, _, _, _, _, _, hu⟩ | ⟨_, hb, _, _, _, hu⟩
        · exact hk
        · exfalso
          rw [hu] at h
          rcases itoa_cases u.int with ⟨_, e⟩ | ⟨_, e⟩ <;> rw [e] at h
          · obtain ⟨c, s, h1, h2⟩ := dec_ne u.int.toNat
            rw [h1] at h
            exact cons_ne h (by rw [show n8 95 = 95 from rfl]; omega)
          · exact cons_ne h (by decide)
        · rw [hu] at h; exact (cons_ne h (by decide)).elim
        · rw [hu] at h; exact (cons_ne h (by decide)).elim
        · exfalso
          obtain ⟨c, s, h1, h2⟩ := functor_head u.name
          rw [hu, h1] at h
          refine cons_ne h ?_
          rw [show n8 95 = 95 from rfl]
          rcases h2 with h | h | h | h | h
          · omega
          · omega
          · omega
          · omega
          · have := sign_vals h; omega
        · rw [hu] at h; exact (cons_ne h (by decide)).elim
        · exfalso
          obtain ⟨c, s, h1, h2⟩ := functor_head u.name
          rw [hu, h1, List.cons_append, List.cons_append] at h
          refine cons_ne h ?_
          rw [show n8 95 = 95 from rfl]
          rcases h2 with h | h | h | h | h
          · omega
          · omega
          · omega
          · omega
          · have := sign_vals h; omega
      all_goals omega
    · intro hk
      rcases ht with ⟨hk2, _⟩ | ⟨_, ht⟩ | ⟨hk2, _⟩ | ⟨hk2, _⟩ | ⟨hk2, _⟩ | ⟨hk2, _⟩ | ⟨hk2, _⟩
      · omega
      · rw [ht] at h
        have hd : ∃ c s, Lib.itoa t.int = c :: s ∧ (48 ≤ n8 c ∧ n8 c ≤ 57 ∨ n8 c = 45) := by
          rcases itoa_cases t.int with ⟨_, e⟩ | ⟨_, e⟩
          · obtain ⟨c, s, h1, h2⟩ := dec_ne t.int.toNat
            exact ⟨c, s, by rw [e, h1], .inl h2⟩
          · exact ⟨45, _, e, .inr (by decide)⟩
        rcases hu with ⟨_, hu⟩ | ⟨hk, _⟩ | ⟨_, _, hu⟩ | ⟨_, _, hu⟩ | ⟨_, hb, hu⟩ | ⟨_, _, a, b, _, _, _, _, _, hu⟩ | ⟨_, hb, _, _, _, hu⟩
        · exfalso
          obtain ⟨c, s, h1, h2⟩ := hd
          rw [h1, hu] at h
          exact cons_ne h (by rw [show n8 95 = 95 from rfl]; omega)
        · exact hk
        · exfalso
          obtain ⟨c, s, h1, h2⟩ := hd
          rw [h1, hu] at h
          exact cons_ne h (by rw [show n8 91 = 91 from rfl]; omega)
        · exfalso
          obtain ⟨c, s, h1, h2⟩ := hd
          rw [h1, hu] at h
          exact cons_ne h (by rw [show n8 123 = 123 from rfl]; omega)
        · exfalso
          rw [hu] at h
          exact functor_itoa hb hr' hr h.symm
        · exfalso
          obtain ⟨c, s, h1, h2⟩ := hd
          rw [h1, hu] at h
          exact cons_ne h (by rw [show n8 91 = 91 from rfl]; omega)
        · exfalso
          rw [hu, List.append_assoc, List.cons_append] at h
          exact functor_itoa hb (s40 _) hr h.symm
      all_goals omega
  exact key t u ht hu r r' hr hr' h

theorem sameT_atom {t u : Tm} (h1 : t.kind = 3) (h2 : u.kind = 3) (h : t.name = u.name) : sameT t u = true := by
  rw [sameT_eq, h1, h2, h]; simp
theorem sameT_comp {t u : Tm} (h1 : t.kind = 4) (h2 : u.kind = 4) (h : t.name = u.name) (hl : t.args.length = u.args.length) (hs : sameL t.args u.args = true) : sameT t u = true := by
  rw [sameT_eq, h1, h2, h, hl, hs]; simp

def good (t : Tm) : Prop := plainR t = true ∧ failS t = false

theorem tm_size (t : Tm) : SizeOf.sizeOf t = 1 + SizeOf.sizeOf t.kind + SizeOf.sizeOf t.name + SizeOf.sizeOf t.int + SizeOf.sizeOf t.args := by
  obtain ⟨_, _, _, _⟩ := t
  simp only [Tm.mk.sizeOf_spec]

theorem inj_main (N : Nat) :
    (∀ t u : Tm, SizeOf.sizeOf t + SizeOf.sizeOf u ≤ N → good t → good u → ∀ r r', endB r → endB r' → termS t ++ r = termS u ++ r' → sameT t u = true ∧ r = r') ∧
    (∀ t u : Tm, SizeOf.sizeOf t + SizeOf.sizeOf u ≤ N → good t → good u → ∀ r r', tailS t ++ 93 :: r = tailS u ++ 93 :: r' → sameT t u = true ∧ r = r') ∧
    (∀ ts us : List Tm, SizeOf.sizeOf ts + SizeOf.sizeOf us ≤ N → (∀ t ∈ ts, good t) → (∀ t ∈ us, good t) → ∀ r r', moreS ts ++ 41 :: r = moreS us ++ 41 :: r' → ts.length = us.length ∧ sameL ts us = true ∧ r = r') := by
  induction N with
  | zero => exact ⟨fun t u h => (by cases t; simp at h), fun t u h => (by cases t; simp at h), fun ts us h => (by cases ts <;> simp at h <;> omega)⟩
  | succ N ih =>
    obtain ⟨ihA, ihC, ihB⟩ := ih
    have s40 : ∀ x, stopB (40 :: x) := fun x => stopB_cons _ _ (stop_of_vals _ (by decide))
    have more_end : ∀ (ts : List Tm) (r : List UInt8), endB (moreS ts ++ 41 :: r) := fun ts r => by
      cases ts with
      | nil => rw [moreS_nil]; exact endB_cons _ _ (by decide)
      | cons t ts => rw [moreS_cons]; exact endB_cons _ _ (by decide)
    have hA : ∀ t u : Tm, SizeOf.sizeOf t + SizeOf.sizeOf u ≤ N + 1 → good t → good u → ∀ r r', endB r → endB r' → termS t ++ r = termS u ++ r' → sameT t u = true ∧ r = r' := by
      intro t u hz gt gu r r' hr hr' h
      have st := shape t gt.1 gt.2
      have su := shape u gu.1 gu.2
      have u1 := unlike t u st su r r' hr.stop hr'.stop h
      have u2 := unlike u t su st r' r hr'.stop hr.stop h.symm
      rcases st with ⟨hk, ht⟩ | ⟨hk, ht⟩ | ⟨hk, hn, ht⟩ | ⟨hk, hn, ht⟩ | ⟨hk, hb, ht⟩ | ⟨hk, hn, a, b, hab, ha, ha', hb, hb', ht⟩ | ⟨hk, hb, hne, hpl, hfl, ht⟩
      · have hku := u1.1 hk
        rcases su with ⟨_, hu⟩ | ⟨hk2, hu⟩ | ⟨hk2, _⟩ | ⟨hk2, _⟩ | ⟨hk2, _⟩ | ⟨hk2, _⟩ | ⟨hk2, _⟩ <;> try omega
        rw [ht, hu] at h
        simp only [List.cons_append, List.cons.injEq, true_and] at h
        obtain ⟨h1, h2⟩ := itoa_split hr.stop hr'.stop h
        exact ⟨by rw [sameT_eq, hk, hku, h1]; simp, h2⟩
      · have hku := u1.2 hk
        rcases su with ⟨hk2, hu⟩ | ⟨_, hu⟩ | ⟨hk2, _⟩ | ⟨hk2, _⟩ | ⟨hk2, _⟩ | ⟨hk2, _⟩ | ⟨hk2, _⟩ <;> try omega
        rw [ht, hu] at h
        obtain ⟨h1, h2⟩ := itoa_split hr.stop hr'.stop h
        exact ⟨by rw [sameT_eq, hk, hku, h1]; simp, h2⟩
      -- the atom []
      · rcases su with ⟨hk2, hu⟩ | ⟨hk2, hu⟩ | ⟨hk2, hn2, hu⟩ | ⟨hk2, hn2, hu⟩ | ⟨hk2, hb2, hu⟩ | ⟨hk2, hn2, a2, b2, hab2, ha2, ha2', hb2, hb2', hu⟩ | ⟨hk2, hb2, hne2, hpl2, hfl2, hu⟩
        · have := u2.1 hk2; omega
        · have := u2.2 hk2; omega
        · rw [ht, hu] at h
          exact ⟨sameT_atom hk hk2 (by rw [hn, hn2]), by simpa using h⟩
        · rw [ht, hu] at h
          exact (cons_ne h (by decide)).elim
        · rw [ht, hu] at h
          obtain ⟨c, s, h1, h2⟩ := functor_head u.name
          rw [h1] at h
          exact (cons_ne h (by
            rw [show n8 91 = 91 from rfl]
            rcases h2 with h | h | h | h | h
            · omega
            · omega
            · omega
            · omega
            · have := sign_vals h; omega)).elim
        · rw [ht, hu] at h
          obtain ⟨c, s, h1, h2⟩ := term_head a2 ha2 ha2'
          rw [h1] at h
          simp only [List.cons_append, List.nil_append, List.cons.injEq, true_and] at h
          have := head_ne h2
          rw [← h.1] at this
          exact absurd rfl this.1
        · rw [ht, hu] at h
          obtain ⟨c, s, h1, h2⟩ := functor_head u.name
          rw [h1, List.cons_append, List.cons_append] at h
          exact (cons_ne h (by
            rw [show n8 91 = 91 from rfl]
            rcases h2 with h | h | h | h | h
            · omega
            · omega
            · omega
            · omega
            · have := sign_vals h; omega)).elim
      -- the atom {}
      · rcases su with ⟨hk2, hu⟩ | ⟨hk2, hu⟩ | ⟨hk2, hn2, hu⟩ | ⟨hk2, hn2, hu⟩ | ⟨hk2, hb2, hu⟩ | ⟨hk2, hn2, a2, b2, hab2, ha2, ha2', hb2, hb2', hu⟩ | ⟨hk2, hb2, hne2, hpl2, hfl2, hu⟩
        · have := u2.1 hk2; omega
        · have := u2.2 hk2; omega
        · rw [ht, hu] at h
          exact (cons_ne h (by decide)).elim
        · rw [ht, hu] at h
          exact ⟨sameT_atom hk hk2 (by rw [hn, hn2]), by simpa using h⟩
        · rw [ht, hu] at h
          obtain ⟨c, s, h1, h2⟩ := functor_head u.name
          rw [h1] at h
          exact (cons_ne h (by
            rw [show n8 123 = 123 from rfl]
            rcases h2 with h | h | h | h | h
            · omega
            · omega
            · omega
            · omega
            · have := sign_vals h; omega)).elim
        · rw [ht, hu] at h
          exact (cons_ne h (by decide)).elim
        · rw [ht, hu] at h
          obtain ⟨c, s, h1, h2⟩ := functor_head u.name
          rw [h1, List.cons_append, List.cons_append] at h
          exact (cons_ne h (by
            rw [show n8 123 = 123 from rfl]
            rcases h2 with h | h | h | h | h
            · omega
            · omega
            · omega
            · omega
            · have := sign_vals h; omega)).elim
      -- another atom
      · rcases su with ⟨hk2, hu⟩ | ⟨hk2, hu⟩ | ⟨hk2, hn2, hu⟩ | ⟨hk2, hn2, hu⟩ | ⟨hk2, hb2, hu⟩ | ⟨hk2, hn2, a2, b2, hab2, ha2, ha2', hb2, hb2', hu⟩ | ⟨hk2, hb2, hne2, hpl2, hfl2, hu⟩
        · have := u2.1 hk2; omega
        · have := u2.2 hk2; omega
        · rw [ht, hu] at h
          obtain ⟨c, s, h1, h2⟩ := functor_head t.name
          rw [h1] at h
          exact (cons_ne h (by
            rw [show n8 91 = 91 from rfl]
            rcases h2 with h | h | h | h | h
            · omega
            · omega
            · omega
            · omega
            · have := sign_vals h; omega)).elim
        · rw [ht, hu] at h
          obtain ⟨c, s, h1, h2⟩ := functor_head t.name
          rw [h1] at h
          exact (cons_ne h (by
            rw [show n8 123 = 123 from rfl]
            rcases h2 with h | h | h | h | h
            · omega
            · omega
            · omega
            · omega
            · have := sign_vals h; omega)).elim
        · rw [ht, hu] at h
          obtain ⟨h1, h2⟩ := functor_split hb hb2 hr.stop hr'.stop h
          exact ⟨sameT_atom hk hk2 h1, h2⟩
        · rw [ht, hu] at h
          obtain ⟨c, s, h1, h2⟩ := functor_head t.name
          rw [h1] at h
          exact (cons_ne h (by
            rw [show n8 91 = 91 from rfl]
            rcases h2 with h | h | h | h | h
            · omega
            · omega
            · omega
            · omega
            · have := sign_vals h; omega)).elim
        · rw [ht, hu, List.append_assoc, List.cons_append] at h
          obtain ⟨h1, h2⟩ := functor_split hb hb2 hr.stop (s40 _) h
          have := hr _ _ h2
          rw [show n8 40 = 40 from rfl] at this
          omega
      -- a list
      · rcases su with ⟨hk2, hu⟩ | ⟨hk2, hu⟩ | ⟨hk2, hn2, hu⟩ | ⟨hk2, hn2, hu⟩ | ⟨hk2, hb2, hu⟩ | ⟨hk2, hn2, a2, b2, hab2, ha2, ha2', hb2, hb2', hu⟩ | ⟨hk2, hb2, hne2, hpl2, hfl2, hu⟩
        · have := u2.1 hk2; omega
        · have := u2.2 hk2; omega
        · rw [ht, hu] at h
          obtain ⟨c, s, h1, h2⟩ := term_head a ha ha'
          rw [h1] at h
          simp only [List.cons_append, List.nil_append, List.cons.injEq, true_and] at h
          have := head_ne h2
          rw [h.1] at this
          exact absurd rfl this.1
        · rw [ht, hu] at h
          exact (cons_ne h (by decide)).elim
        · rw [ht, hu] at h
          obtain ⟨c, s, h1, h2⟩ := functor_head u.name
          rw [h1] at h
          exact (cons_ne h (by
            rw [show n8 91 = 91 from rfl]
            rcases h2 with h | h | h | h | h
            · omega
            · omega
            · omega
            · omega
            · have := sign_vals h; omega)).elim
        · rw [ht, hu] at h
          simp only [List.cons_append, List.cons.injEq, true_and, List.append_assoc, List.nil_append] at h
          have zt := tm_size t
          have zu := tm_size u
          rw [hab] at zt
          rw [hab2] at zu
          simp only [List.cons.sizeOf_spec, List.nil.sizeOf_spec] at zt zu
          obtain ⟨h1, h2⟩ := ihA a a2 (by omega) ⟨ha, ha'⟩ ⟨ha2, ha2'⟩ _ _ (tail_end _ _) (tail_end _ _) h
          obtain ⟨h3, h4⟩ := ihC b b2 (by omega) ⟨hb, hb'⟩ ⟨hb2, hb2'⟩ _ _ h2
          refine ⟨sameT_comp hk hk2 (by rw [hn, hn2]) (by rw [hab, hab2]; rfl) ?_, h4⟩
          rw [hab, hab2, sameL, sameL, h1, h3]
          simp [sameL]
        · rw [ht, hu] at h
          obtain ⟨c, s, h1, h2⟩ := functor_head u.name
          rw [h1, List.cons_append, List.cons_append] at h
          exact (cons_ne h (by
            rw [show n8 91 = 91 from rfl]
            rcases h2 with h | h | h | h | h
            · omega
            · omega
            · omega
            · omega
            · have := sign_vals h; omega)).elim
      -- a compound term
      · rcases su with ⟨hk2, hu⟩ | ⟨hk2, hu⟩ | ⟨hk2, hn2, hu⟩ | ⟨hk2, hn2, hu⟩ | ⟨hk2, hb2, hu⟩ | ⟨hk2, hn2, a2, b2, hab2, ha2, ha2', hb2, hb2', hu⟩ | ⟨hk2, hb2, hne2, hpl2, hfl2, hu⟩
        · have := u2.1 hk2; omega
        · have := u2.2 hk2; omega
        · rw [ht, hu] at h
          obtain ⟨c, s, h1, h2⟩ := functor_head t.name
          rw [h1, List.cons_append, List.cons_append] at h
          exact (cons_ne h (by
            rw [show n8 91 = 91 from rfl]
            rcases h2 with h | h | h | h | h
            · omega
            · omega
            · omega
            · omega
            · have := sign_vals h; omega)).elim
        · rw [ht, hu] at h
          obtain ⟨c, s, h1, h2⟩ := functor_head t.name
          rw [h1, List.cons_append, List.cons_append] at h
          exact (cons_ne h (by
            rw [show n8 123 = 123 from rfl]
            rcases h2 with h | h | h | h | h
            · omega
            · omega
            · omega
            · omega
            · have := sign_vals h; omega)).elim
        · rw [ht, hu, List.append_assoc, List.cons_append] at h
          obtain ⟨h1, h2⟩ := functor_split hb hb2 (s40 _) hr'.stop h
          have := hr' _ _ h2.symm
          rw [show n8 40 = 40 from rfl] at this
          omega
        · rw [ht, hu] at h
          obtain ⟨c, s, h1, h2⟩ := functor_head t.name
          rw [h1, List.cons_append, List.cons_append] at h
          exact (cons_ne h (by
            rw [show n8 91 = 91 from rfl]
            rcases h2 with h | h | h | h | h
            · omega
            · omega
            · omega
            · omega
            · have := sign_vals h; omega)).elim
        · rw [ht, hu] at h
          simp only [List.append_assoc, List.cons_append, List.nil_append] at h
          obtain ⟨h1, h2⟩ := functor_split hb hb2 (s40 _) (s40 _) h
          simp only [List.cons.injEq, true_and] at h2
          obtain ⟨x, xs, hx⟩ := List.exists_cons_of_ne_nil hne
          obtain ⟨y, ys, hy⟩ := List.exists_cons_of_ne_nil hne2
          have zt := tm_size t
          have zu := tm_size u
          rw [hx] at zt hpl hfl h2
          rw [hy] at zu hpl2 hfl2 h2
          simp only [List.cons.sizeOf_spec] at zt zu
          have gx : ∀ z ∈ x :: xs, good z := fun z hz => ⟨plainL_mem hpl z hz, failL_mem hfl z hz⟩
          have gy : ∀ z ∈ y :: ys, good z := fun z hz => ⟨plainL_mem hpl2 z hz, failL_mem hfl2 z hz⟩
          rw [allS_cons, allS_cons, List.append_assoc, List.append_assoc] at h2
          obtain ⟨h3, h4⟩ := ihA x y (by omega) (gx x (by simp)) (gy y (by simp)) _ _ (more_end _ _) (more_end _ _) h2
          obtain ⟨h5, h6, h7⟩ := ihB xs ys (by omega) (fun z hz => gx z (by simp [hz])) (fun z hz => gy z (by simp [hz])) _ _ h4
          refine ⟨sameT_comp hk hk2 h1 (by rw [hx, hy]; simp [h5]) ?_, h7⟩
          rw [hx, hy, sameL, h3, h6]
          rfl
    refine ⟨hA, ?_, ?_⟩
    · intro t u hz gt gu r r' h
      rw [tailS_eq, tailS_eq u] at h
      by_cases hp : t.kind = 4 ∧ t.name = dotN ∧ t.args.length = 2
      · rw [if_pos hp] at h
        by_cases hq : u.kind = 4 ∧ u.name = dotN ∧ u.args.length = 2
        · rw [if_pos hq] at h
          simp only [List.cons_append, List.cons.injEq, true_and] at h
          have ht := termS_eq t
          have hu := termS_eq u
          rw [if_neg (by omega), if_neg (by omega), if_neg (by omega), if_pos hp.1, if_pos hp.2] at ht
          rw [if_neg (by omega), if_neg (by omega), if_neg (by omega), if_pos hq.1, if_pos hq.2] at hu
          -- the inside of a list that goes on is a list's
          have h9 : termS t ++ ([] : List UInt8) = 91 :: (pairS t.args ++ [93]) := by rw [ht]; simp
          obtain ⟨k, nm, i, ts⟩ := t
          obtain ⟨k', nm', i', us⟩ := u
          obtain ⟨hp1, hp2, hp3⟩ := hp
          obtain ⟨hq1, hq2, hq3⟩ := hq
          simp only at hp1 hp2 hp3 hq1 hq2 hq3 h
          have gt := gt
          match ts, hp3, us, hq3 with
          | [a, b], _, [a2, b2], _ =>
            obtain ⟨g1, g2⟩ := gt
            obtain ⟨g3, g4⟩ := gu
            rw [plainR, if_neg (by omega), if_neg (by omega), if_neg (by omega), if_pos hp1, Bool.and_eq_true, plainL, plainL, plainL, Bool.and_true, Bool.and_eq_true (plainR a)] at g1
            rw [plainR, if_neg (by omega), if_neg (by omega), if_neg (by omega), if_pos hq1, Bool.and_eq_true, plainL, plainL, plainL, Bool.and_true, Bool.and_eq_true (plainR a2)] at g3
            rw [failS, if_neg (by omega), if_pos hp1, failL, failL, failL, Bool.or_false, Bool.or_eq_false_iff, Bool.or_eq_false_iff] at g2
            rw [failS, if_neg (by omega), if_pos hq1, failL, failL, failL, Bool.or_false, Bool.or_eq_false_iff, Bool.or_eq_false_iff] at g4
            rw [pairS_two, pairS_two, List.append_assoc, List.append_assoc] at h
            simp only [Tm.mk.sizeOf_spec, List.cons.sizeOf_spec, List.nil.sizeOf_spec] at hz
            obtain ⟨h1, h2⟩ := ihA a a2 (by omega) ⟨g1.2.1, g2.2.1⟩ ⟨g3.2.1, g4.2.1⟩ _ _ (tail_end _ _) (tail_end _ _) h
            obtain ⟨h3, h4⟩ := ihC b b2 (by omega) ⟨g1.2.2, g2.2.2⟩ ⟨g3.2.2, g4.2.2⟩ _ _ h2
            refine ⟨sameT_comp hp1 hq1 (by simp only [hp2, hq2]) rfl ?_, h4⟩
            rw [sameL, sameL, h1, h3]
            simp [sameL]
        · rw [if_neg hq] at h
          exfalso
          by_cases hn : u.kind = 3 ∧ u.name = nilN
          · rw [if_pos hn] at h
            exact cons_ne h (by decide)
          · rw [if_neg hn] at h
            exact cons_ne h (by decide)
      · rw [if_neg hp] at h
        by_cases hq : u.kind = 4 ∧ u.name = dotN ∧ u.args.length = 2
        · rw [if_pos hq] at h
          exfalso
          by_cases hn : t.kind = 3 ∧ t.name = nilN
          · rw [if_pos hn] at h
            exact cons_ne h (by decide)
          · rw [if_neg hn] at h
            exact cons_ne h (by decide)
        · rw [if_neg hq] at h
          by_cases hn : t.kind = 3 ∧ t.name = nilN
          · rw [if_pos hn] at h
            by_cases hm : u.kind = 3 ∧ u.name = nilN
            · rw [if_pos hm] at h
              exact ⟨sameT_atom hn.1 hm.1 (by rw [hn.2, hm.2]), by simpa using h⟩
            · rw [if_neg hm] at h
              exact (cons_ne h (by decide)).elim
          · rw [if_neg hn] at h
            by_cases hm : u.kind = 3 ∧ u.name = nilN
            · rw [if_pos hm] at h
              exact (cons_ne h (by decide)).elim
            · rw [if_neg hm] at h
              simp only [List.cons_append, List.cons.injEq, true_and] at h
              obtain ⟨h1, h2⟩ := hA t u hz gt gu _ _ (endB_cons _ _ (by decide)) (endB_cons _ _ (by decide)) h
              exact ⟨h1, by simpa using h2⟩
    · intro ts us hz gt gu r r' h
      cases ts with
      | nil =>
        cases us with
        | nil =>
          rw [moreS_nil] at h
          exact ⟨rfl, by simp [sameL], by simpa using h⟩
        | cons y ys =>
          rw [moreS_nil, moreS_cons] at h
          exact (cons_ne h (by decide)).elim
      | cons x xs =>
        cases us with
        | nil =>
          rw [moreS_nil, moreS_cons] at h
          exact (cons_ne h (by decide)).elim
        | cons y ys =>
          rw [moreS_cons, moreS_cons] at h
          simp only [List.cons_append, List.cons.injEq, true_and, List.append_assoc] at h
          simp only [List.cons.sizeOf_spec] at hz
          obtain ⟨h3, h4⟩ := ihA x y (by omega) (gt x (by simp)) (gu y (by simp)) _ _ (more_end _ _) (more_end _ _) h
          obtain ⟨h5, h6, h7⟩ := ihB xs ys (by omega) (fun z hz => gt z (by simp [hz])) (fun z hz => gu z (by simp [hz])) _ _ h4
          exact ⟨by simp [h5], by rw [sameL, h3, h6]; rfl, h7⟩

/-- The same terms have the same texts. -/
theorem same_text (N : Nat) : (∀ t u : Tm, SizeOf.sizeOf t ≤ N → sameT t u = true → termS t = termS u ∧ tailS t = tailS u) ∧
    (∀ ts us : List Tm, SizeOf.sizeOf ts ≤ N → ts.length = us.length → sameL ts us = true → allS ts = allS us ∧ moreS ts = moreS us ∧ pairS ts = pairS us) := by
  induction N with
  | zero => exact ⟨fun t u h => by cases t; simp at h, fun ts us h => by cases ts <;> simp at h⟩
  | succ N ih =>
    have one : ∀ t u : Tm, SizeOf.sizeOf t ≤ N + 1 → sameT t u = true → termS t = termS u ∧ tailS t = tailS u := by
      intro t u hz hs
      rw [sameT_eq, Bool.and_eq_true, decide_eq_true_eq] at hs
      obtain ⟨hk, hs⟩ := hs
      have hT : termS t = termS u ∧ (t.kind = 4 → t.name = u.name ∧ t.args.length = u.args.length ∧ pairS t.args = pairS u.args) ∧ (t.kind = 3 → t.name = u.name) := by
        rw [termS_eq, termS_eq u, ← hk]
        by_cases h2 : t.kind ≤ 2
        · rw [if_pos h2, decide_eq_true_eq] at hs
          refine ⟨?_, fun h => by omega, fun h => by omega⟩
          rw [hs]
          by_cases k1 : t.kind = 1
          · rw [if_pos k1, if_pos k1]
          rw [if_neg k1, if_neg k1]
          by_cases k2 : t.kind = 2
          · rw [if_pos k2, if_pos k2]
          have n3 : ¬ t.kind = 3 := by omega
          have n4 : ¬ t.kind = 4 := by omega
          simp only [k2, n3, n4, if_false]
        rw [if_neg h2] at hs
        have n1 : ¬ t.kind = 1 := by omega
        have n2 : ¬ t.kind = 2 := by omega
        simp only [n1, n2, if_false]
        by_cases h4 : t.kind = 4
        · rw [if_pos h4] at hs
          simp only [Bool.and_eq_true, decide_eq_true_eq] at hs
          obtain ⟨hl, hn, hs⟩ := hs
          obtain ⟨e1, _, e3⟩ := ih.2 t.args u.args (by obtain ⟨_, _, _, _⟩ := t; simp at hz ⊢; omega) hl hs
          refine ⟨?_, fun _ => ⟨hn, hl, e3⟩, fun h => by omega⟩
          have n3 : ¬ t.kind = 3 := by omega
          simp only [h4, if_true, hn, hl, e1, e3]
        · rw [if_neg h4, decide_eq_true_eq] at hs
          refine ⟨?_, fun h => absurd h h4, fun _ => hs⟩
          simp only [h4, if_false, hs]
      refine ⟨hT.1, ?_⟩
      rw [tailS_eq, tailS_eq u, hT.1, ← hk]
      by_cases h4 : t.kind = 4
      · obtain ⟨a, b, c⟩ := hT.2.1 h4
        rw [a, b, c]
      by_cases h3 : t.kind = 3
      · rw [hT.2.2 h3]
        simp [h3]
      · simp [h3, h4]
    refine ⟨one, fun ts us hz hl hs => ?_⟩
    cases ts with
    | nil =>
      cases us with
      | nil => exact ⟨rfl, rfl, rfl⟩
      | cons y ys => simp at hl
    | cons x xs =>
      cases us with
      | nil => simp at hl
      | cons y ys =>
        rw [sameL, Bool.and_eq_true] at hs
        simp only [List.cons.sizeOf_spec] at hz
        have h1 := one x y (by omega) hs.1
        have h2 := ih.2 xs ys (by omega) (by simpa using hl) hs.2
        refine ⟨by rw [allS_cons, allS_cons, h1.1, h2.2.1], by rw [moreS_cons, moreS_cons, h1.1, h2.2.1], ?_⟩
        match xs, ys, hl with
        | [], [], _ => rw [pairS, pairS] <;> simp
        | [b], [b2], _ =>
          rw [pairS_two, pairS_two, h1.1]
          rw [sameL, Bool.and_eq_true] at hs
          simp only [List.cons.sizeOf_spec] at hz
          rw [(ih.1 b b2 (by omega) hs.2.1).2]
        | a :: b :: c, a2 :: b2 :: c2, _ => rw [pairS, pairS] <;> simp

theorem text_inj {t u : Tm} (ht : good t) (hu : good u) : (termS t = termS u) ↔ sameT t u = true := by
  constructor
  · intro h
    exact ((inj_main _).1 t u (Nat.le_refl _) ht hu [] [] endB_nil endB_nil (by rw [h])).1
  · intro h
    exact ((same_text _).1 t u (Nat.le_refl _) h).1
end Go.Proofs.YtgidbplaoijalaaGreatRDoor

/- The walk of pythialaw11.WriteOnce: it returns true. -/
namespace Go.Proofs.YtgidbplaoijalaaGreatRDoor
set_option linter.unusedSimpArgs false
open Go.RowKit Go.Proofs.YtgidbplaoijalaaGreatRDoorW.PrintWords
set_option linter.unusedVariables false

def okT (t : Tm) : Bool := rightB t && !failS t
theorem textR_ok {t : Tm} (h : okT t = true) : textR t = (termS t, 0) ∧ good t := by
  unfold okT at h
  simp only [Bool.and_eq_true, Bool.not_eq_true'] at h
  obtain ⟨h1, h2⟩ := h
  refine ⟨?_, ((rightB_iff t).1 h1).1, h2⟩
  unfold textR
  rw [if_pos h1, h2, if_neg (by decide)]
theorem textR_no {t : Tm} (h : okT t = false) : ∃ k : Int, textR t = ([], k) ∧ (k = 70 ∨ k = 80) := by
  unfold okT at h
  unfold textR
  cases h1 : rightB t with
  | false => exact ⟨70, by rw [if_neg (by decide)], .inl rfl⟩
  | true =>
    rw [h1, Bool.true_and, Bool.not_eq_false'] at h
    exact ⟨80, by rw [if_pos rfl, h, if_pos rfl], .inr rfl⟩

set_option maxHeartbeats 2000000 in
set_option maxRecDepth 100000 in
theorem once_any (t u : Tm) (v x : Value) (w : World) (hL : Laid w) (ht : TV t v w) (hu : TV u x w) (rt : rngT t = true) (ru : rngT u = true) :
    Calls Tryz.prog 3 #[v, x] w fun e w' => e = .returned (.bool true) ∧ Stay w w' NoS := by
  have htx := fun W (h : Stay w W NoS) => text_tv (ht.stay h) (hL.stay h (fun _ _ e => e)) rt
  have hux := fun W (h : Stay w W NoS) => text_tv (hu.stay h) (hL.stay h (fun _ _ e => e)) ru
  have hsm := fun W (h : Stay w W NoS) => same_tv (ht.stay h) (hu.stay h)
  obtain ⟨A, c, ok, rfl, hc, hF⟩ := ht
  obtain ⟨B, d, ok', rfl, hd, hG⟩ := hu
  have hx : okT t = true → okT u = true → textR t = (termS t, 0) ∧ textR u = (termS u, 0) ∧ (termS t = termS u ↔ sameT t u = true) := fun h1 h2 =>
    ⟨(textR_ok h1).1, (textR_ok h2).1, text_inj (textR_ok h1).2 (textR_ok h2).2⟩
  have hnt := fun h => textR_no (t := t) h
  have hnu := fun h => textR_no (t := u) h
  generalize okT t = ot at hx hnt
  generalize okT u = ou at hx hnu
  generalize textR t = tt at hx hnt htx
  generalize textR u = tu at hx hnu hux
  generalize termS t = lt at hx
  generalize termS u = lu at hx
  generalize sameT t u = sm at hx hsm
  have Htx := hide htx
  have Hux := hide hux
  have Hsm := hide hsm
  have HL := hide hL
  have Hx := hide hx
  have Hnt := hide hnt
  have Hnu := hide hnu
  obtain ⟨k, nm, i, ts⟩ := t
  obtain ⟨k', nm', i', us⟩ := u
  clear htx hux hsm hL hx hnt hnu hF hG hc hd rt ru
  rw [show tmV ⟨k, nm, i, ts⟩ A c = .agg #[.int .i64 k, .string nm, .int .i64 i, .slice A ts.length c] from rfl, show tmV ⟨k', nm', i', us⟩ B d = .agg #[.int .i64 k', .string nm', .int .i64 i', .slice B us.length d] from rfl] at *
  go_enter Tryz.func3, Tryz.ntmps3
  go_wp2_with fail
  have hs0 : ∀ o o', Stay w ((w.alloc o).alloc o') NoS := fun o o' => ((Stay.refl _ _).alloc o).alloc o'
  have hb0 : ∀ o o' : Obj, ((w.alloc o).alloc o').heap[w.heap.size]? = some o := fun o o' => (Below.heap_alloc _ _ _ (by simp)).trans (heap_alloc_new _ _)
  have hb1 : ∀ o o' : Obj, ((w.alloc o).alloc o').heap[w.heap.size + 1]? = some o' := fun o o' => alloc2_new _ _ _
  refine (alive11_any _ (HL.out.stay (hs0 _ _) (fun _ _ e => e))).mono ?_
  rintro e w1 ⟨rfl, s1⟩
  have htb : TB w.heap.size k nm i (.slice A ts.length c) w1 := TB.stay (show TB w.heap.size k nm i (.slice A ts.length c) _ from hb0 _ _) s1 (fun e => e)
  have htb' : TB (w.heap.size + 1) k' nm' i' (.slice B us.length d) w1 := TB.stay (show TB (w.heap.size + 1) k' nm' i' (.slice B us.length d) _ from hb1 _ _) s1 (fun e => e)
  have Hs1 := hide ((hs0 _ _).trans s1 (fun _ _ e => e))
  have Htb := hide htb
  have Htb' := hide htb'
  have q0 : w1.cell? ⟨w.heap.size, 0, none⟩ = _ := cell_of htb 0 _ rfl
  have q1 : w1.cell? ⟨w.heap.size, 1, none⟩ = _ := cell_of htb 1 _ rfl
  have q2 : w1.cell? ⟨w.heap.size, 2, none⟩ = _ := cell_of htb 2 _ rfl
  have q3 : w1.cell? ⟨w.heap.size, 3, none⟩ = _ := cell_of htb 3 _ rfl
  clear s1 hs0 hb0 hb1 htb htb'
  go_wp2_with fail
  refine (Htx.out _ Hs1.out).mono ?_
  rintro e w2 ⟨rfl, s2⟩
  have htb2 := Htb.out.stay s2 (fun e => e)
  have htb2' := Htb'.out.stay s2 (fun e => e)
  have Hs2 := hide (Hs1.out.trans s2 (fun _ _ e => e))
  have Htb2 := hide htb2
  have Htb2' := hide htb2'
  have p0 : w2.cell? ⟨w.heap.size + 1, 0, none⟩ = _ := cell_of htb2' 0 _ rfl
  have p1 : w2.cell? ⟨w.heap.size + 1, 1, none⟩ = _ := cell_of htb2' 1 _ rfl
  have p2 : w2.cell? ⟨w.heap.size + 1, 2, none⟩ = _ := cell_of htb2' 2 _ rfl
  have p3 : w2.cell? ⟨w.heap.size + 1, 3, none⟩ = _ := cell_of htb2' 3 _ rfl
  clear s2 htb2 htb2' q0 q1 q2 q3 Htb Htb' Hs1
  go_wp2_with fail
  refine (Hux.out _ Hs2.out).mono ?_
  rintro e w3 ⟨rfl, s3⟩
  have htb3 := Htb2.out.stay s3 (fun e => e)
  have htb3' := Htb2'.out.stay s3 (fun e => e)
  have Hs3 := hide (Hs2.out.trans s3 (fun _ _ e => e))
  have q0 : w3.cell? ⟨w.heap.size, 0, none⟩ = _ := cell_of htb3 0 _ rfl
  have q1 : w3.cell? ⟨w.heap.size, 1, none⟩ = _ := cell_of htb3 1 _ rfl
  have q2 : w3.cell? ⟨w.heap.size, 2, none⟩ = _ := cell_of htb3 2 _ rfl
  have q3 : w3.cell? ⟨w.heap.size, 3, none⟩ = _ := cell_of htb3 3 _ rfl
  have p0 : w3.cell? ⟨w.heap.size + 1, 0, none⟩ = _ := cell_of htb3' 0 _ rfl
  have p1 : w3.cell? ⟨w.heap.size + 1, 1, none⟩ = _ := cell_of htb3' 1 _ rfl
  have p2 : w3.cell? ⟨w.heap.size + 1, 2, none⟩ = _ := cell_of htb3' 2 _ rfl
  have p3 : w3.cell? ⟨w.heap.size + 1, 3, none⟩ = _ := cell_of htb3' 3 _ rfl
  clear s3 htb3 htb3' Htb2 Htb2' Hs2
  obtain ⟨lt', et⟩ := tt
  obtain ⟨lu', eu⟩ := tu
  simp only
  cases ot with
  | false =>
    have he : (et != 0) = true := by
      obtain ⟨z, hz, hz2⟩ := Hnt.out rfl
      injection hz with _ hz
      rw [hz, bne_iff_ne]
      omega
    go_wp2_with fail
    go_ret
    exact ⟨rfl, Hs3.out⟩
  | true =>
    cases ou with
    | false =>
      have he : (eu != 0) = true := by
        obtain ⟨z, hz, hz2⟩ := Hnu.out rfl
        injection hz with _ hz
        rw [hz, bne_iff_ne]
        omega
      by_cases h0 : et = 0
      · have h0' : (et != 0) = false := by rw [h0]; rfl
        clear h0
        go_wp2_with fail
        go_ret
        exact ⟨rfl, Hs3.out⟩
      · have h0' : (et != 0) = true := by rw [bne_iff_ne]; exact h0
        clear h0
        go_wp2_with fail
        go_ret
        exact ⟨rfl, Hs3.out⟩
    | true =>
      obtain ⟨h1, h2, h3⟩ := Hx.out rfl rfl
      injection h1 with h1 h1'
      injection h2 with h2 h2'
      subst h1 h1' h2 h2'
      have H3 := hide h3
      clear h3
      go_wp2_with fail
      refine (Hsm.out _ Hs3.out).mono ?_
      rintro e w4 ⟨rfl, s4⟩
      go_wp2_with fail
      go_ret
      refine ⟨?_, Hs3.out.trans s4 (fun _ _ e => e)⟩
      have hb : ((bs lt').toList == (bs lu').toList) = sm := by
        rw [Bool.eq_iff_iff, ← H3.out, beq_iff_eq, Lib.toList_data, Lib.toList_data, bs_list, bs_list]
      rw [hb]
      cases sm <;> rfl
end Go.Proofs.YtgidbplaoijalaaGreatRDoor

/- pythiaref07's Size, Depth, plain in plain Lean, and what they say together: a term is right. -/
namespace Go.Proofs.YtgidbplaoijalaaGreatRDoor
set_option linter.unusedSimpArgs false
set_option linter.unusedVariables false

mutual
def sizeF : Tm → Int → Int
  | ⟨k, nm, i, ts⟩, most => if k = 4 then sizeFL ts 1 most else 1
def sizeFL : List Tm → Int → Int → Int
  | [], n, _ => n
  | t :: ts, n, most => if n ≤ most then sizeFL ts (n + sizeF t (most - n)) most else n
end
mutual
def depF : Tm → Int → Int
  | ⟨k, nm, i, ts⟩, left => if left ≤ 0 ∨ ¬ k = 4 then 1 else depFL ts 0 left + 1
def depFL : List Tm → Int → Int → Int
  | [], d, _ => d
  | t :: ts, d, left => depFL ts (if depF t (left - 1) > d then depF t (left - 1) else d) left
end
mutual
def plainF : Tm → Int → Bool
  | ⟨k, nm, i, ts⟩, left => if left ≤ 0 then false else if k = 1 then decide (i ≥ 1) else if k = 2 then true else if k = 3 then decide ((nm.size : Int) ≤ 64)
    else if k = 4 then (if (nm.size : Int) > 64 ∨ ts.length < 1 ∨ ts.length > 8 then false else plainFL ts left) else false
def plainFL : List Tm → Int → Bool
  | [], _ => true
  | t :: ts, left => if plainF t (left - 1) = true then plainFL ts left else false
end

theorem sizeF_law (N : Nat) : (∀ t : Tm, SizeOf.sizeOf t ≤ N → ∀ most : Int, 0 ≤ most → ((cnt t : Int) ≤ most → sizeF t most = cnt t) ∧ (most < cnt t → most < sizeF t most) ∧ 1 ≤ sizeF t most ∧ sizeF t most ≤ most + 1) ∧
    (∀ ts : List Tm, SizeOf.sizeOf ts ≤ N → ∀ n most : Int, 1 ≤ n → n ≤ most + 1 → (n + cntL ts ≤ most → sizeFL ts n most = n + cntL ts) ∧ (most < n + cntL ts → most < sizeFL ts n most) ∧ 1 ≤ sizeFL ts n most ∧ sizeFL ts n most ≤ most + 1) := by
  induction N with
  | zero => exact ⟨fun t h => (by cases t; simp at h), fun ts h => (by cases ts <;> simp at h)⟩
  | succ N ih =>
    have one : ∀ t : Tm, SizeOf.sizeOf t ≤ N + 1 → ∀ most : Int, 0 ≤ most → ((cnt t : Int) ≤ most → sizeF t most = cnt t) ∧ (most < cnt t → most < sizeF t most) ∧ 1 ≤ sizeF t most ∧ sizeF t most ≤ most + 1 := by
      intro t hz most hm
      obtain ⟨k, nm, i, ts⟩ := t
      rw [cnt, sizeF]
      by_cases h4 : k = 4
      · rw [if_pos h4, if_pos h4]
        have h := ih.2 ts (by simp at hz; omega) 1 most (by omega) (by omega)
        refine ⟨fun h1 => ?_, fun h1 => h.2.1 (by omega), h.2.2⟩
        rw [h.1 (by omega)]
        omega
      · rw [if_neg h4, if_neg h4]
        omega
    refine ⟨one, fun ts hz n most h1 h2 => ?_⟩
    cases ts with
    | nil => rw [cntL, sizeFL]; omega
    | cons t ts =>
      rw [cntL, sizeFL]
      simp only [List.cons.sizeOf_spec] at hz
      have hc := cnt_pos t
      by_cases hn : n ≤ most
      · rw [if_pos hn]
        have ht := one t (by omega) (most - n) (by omega)
        have hs := ih.2 ts (by omega) (n + sizeF t (most - n)) most (by omega) (by omega)
        by_cases hb : (cnt t : Int) ≤ most - n
        · have e := ht.1 hb
          rw [e] at hs ⊢
          refine ⟨fun h => ?_, fun h => hs.2.1 (by omega), hs.2.2⟩
          rw [hs.1 (by omega)]
          omega
        · have e := ht.2.1 (by omega)
          refine ⟨fun h => by omega, fun h => hs.2.1 (by omega), hs.2.2⟩
      · rw [if_neg hn]
        omega

theorem depF_law (N : Nat) : (∀ t : Tm, SizeOf.sizeOf t ≤ N → ∀ left : Int, 0 ≤ left → depF t left = min (dep t : Int) (left + 1)) ∧
    (∀ ts : List Tm, SizeOf.sizeOf ts ≤ N → ∀ d left : Int, 1 ≤ left → 0 ≤ d → d ≤ left → depFL ts d left = max d (min (depL ts : Int) left)) := by
  induction N with
  | zero => exact ⟨fun t h => (by cases t; simp at h), fun ts h => (by cases ts <;> simp at h)⟩
  | succ N ih =>
    have one : ∀ t : Tm, SizeOf.sizeOf t ≤ N + 1 → ∀ left : Int, 0 ≤ left → depF t left = min (dep t : Int) (left + 1) := by
      intro t hz left hl
      obtain ⟨k, nm, i, ts⟩ := t
      rw [dep, depF]
      by_cases h4 : k = 4
      · rw [if_pos h4]
        by_cases h0 : left ≤ 0
        · rw [if_pos (.inl h0)]; omega
        · rw [if_neg (by omega), ih.2 ts (by simp at hz; omega) 0 left (by omega) (by omega) (by omega)]
          omega
      · rw [if_neg h4, if_pos (.inr h4)]
        omega
    refine ⟨one, fun ts hz d left h1 h2 h3 => ?_⟩
    cases ts with
    | nil => rw [depFL, depL]; omega
    | cons t ts =>
      simp only [List.cons.sizeOf_spec] at hz
      have hd := dep_pos t
      rw [depFL, depL, one t (by omega) (left - 1) (by omega), ih.2 ts (by omega) _ left h1 (by split <;> omega) (by split <;> omega)]
      split <;> omega

theorem plainF_law (N : Nat) : (∀ t : Tm, SizeOf.sizeOf t ≤ N → ∀ left : Int, (plainF t left = true ↔ plainR t = true ∧ (dep t : Int) ≤ left)) ∧
    (∀ ts : List Tm, SizeOf.sizeOf ts ≤ N → ∀ left : Int, 1 ≤ left → (plainFL ts left = true ↔ plainL ts = true ∧ (depL ts : Int) ≤ left - 1)) := by
  induction N with
  | zero => exact ⟨fun t h => (by cases t; simp at h), fun ts h => (by cases ts <;> simp at h)⟩
  | succ N ih =>
    have one : ∀ t : Tm, SizeOf.sizeOf t ≤ N + 1 → ∀ left : Int, (plainF t left = true ↔ plainR t = true ∧ (dep t : Int) ≤ left) := by
      intro t hz left
      have hdp := dep_pos t
      obtain ⟨k, nm, i, ts⟩ := t
      rw [dep] at hdp ⊢
      rw [plainF, plainR]
      by_cases h0 : left ≤ 0
      · rw [if_pos h0]
        constructor
        · intro h; cases h
        · rintro ⟨_, h⟩; omega
      rw [if_neg h0]
      by_cases h1 : k = 1
      · rw [if_pos h1, if_pos h1, if_neg (by omega), decide_eq_true_eq]; omega
      rw [if_neg h1, if_neg h1]
      by_cases h2 : k = 2
      · rw [if_pos h2, if_pos h2, if_neg (by omega)]
        exact ⟨fun _ => ⟨rfl, by omega⟩, fun _ => rfl⟩
      rw [if_neg h2, if_neg h2]
      by_cases h3 : k = 3
      · rw [if_pos h3, if_pos h3, if_neg (by omega), decide_eq_true_eq, decide_eq_true_eq]; omega
      rw [if_neg h3, if_neg h3]
      by_cases h4 : k = 4
      · rw [if_pos h4, if_pos h4, if_pos h4]
        have h := ih.2 ts (by simp at hz; omega) left (by omega)
        by_cases hb : (nm.size : Int) > 64 ∨ ts.length < 1 ∨ ts.length > 8
        · rw [if_pos hb]
          constructor
          · intro h; cases h
          · rintro ⟨h5, _⟩
            simp only [Bool.and_eq_true, decide_eq_true_eq] at h5
            omega
        · rw [if_neg hb, h]
          simp only [Bool.and_eq_true, decide_eq_true_eq]
          constructor
          · rintro ⟨h5, h6⟩
            exact ⟨⟨⟨⟨by omega, by omega⟩, by omega⟩, h5⟩, by omega⟩
          · rintro ⟨⟨_, h5⟩, h6⟩
            exact ⟨h5, by omega⟩
      · rw [if_neg h4, if_neg h4]
        exact ⟨fun h => (by cases h), fun h => (by cases h.1)⟩
    refine ⟨one, fun ts hz left h1 => ?_⟩
    cases ts with
    | nil =>
      rw [plainFL, plainL, depL]
      exact ⟨fun _ => ⟨rfl, by omega⟩, fun _ => rfl⟩
    | cons t ts =>
      simp only [List.cons.sizeOf_spec] at hz
      rw [plainFL, plainL, depL]
      have ht := one t (by omega) (left - 1)
      have hs := ih.2 ts (by omega) left h1
      cases hp : plainF t (left - 1) with
      | true =>
        have := ht.1 hp
        rw [if_pos rfl, hs, this.1, Bool.true_and]
        exact ⟨fun h => ⟨h.1, by omega⟩, fun h => ⟨h.1, by omega⟩⟩
      | false =>
        rw [if_neg (by decide)]
        constructor
        · intro h; cases h
        · rintro ⟨h2, h3⟩
          rw [Bool.and_eq_true] at h2
          exfalso
          have := ht.2 ⟨h2.1, by omega⟩
          rw [hp] at this
          cases this

/-- What pythiaref07.Right tells. -/
theorem right_law (t : Tm) : (decide (sizeF t 2000 ≤ 2000) && decide (depF t 101 ≤ 100) && plainF t 100) = rightB t := by
  have h1 := (sizeF_law _).1 t (Nat.le_refl _) 2000 (by decide)
  have h2 := (depF_law _).1 t (Nat.le_refl _) 101 (by decide)
  have h3 := (plainF_law _).1 t (Nat.le_refl _) 100
  rw [Bool.eq_iff_iff, rightB_iff, Bool.and_eq_true, Bool.and_eq_true, decide_eq_true_eq, decide_eq_true_eq, h3]
  constructor
  · rintro ⟨⟨h4, h5⟩, h6, h7⟩
    refine ⟨h6, ?_, by omega⟩
    apply Classical.byContradiction
    intro h
    have := h1.2.1 (by omega)
    omega
  · rintro ⟨h4, h5, h6⟩
    have := h1.1 (by omega)
    exact ⟨⟨by omega, by omega⟩, h4, by omega⟩
end Go.Proofs.YtgidbplaoijalaaGreatRDoor

/- A compound term's text is its name's and its arguments' texts; a list's its items': in plain Lean. -/
namespace Go.Proofs.YtgidbplaoijalaaGreatRDoor
set_option linter.unusedSimpArgs false
set_option linter.unusedVariables false

theorem okT_iff (t : Tm) : okT t = true ↔ plainR t = true ∧ cnt t ≤ 2000 ∧ dep t ≤ 100 ∧ failS t = false := by
  unfold okT
  rw [Bool.and_eq_true, rightB_iff, Bool.not_eq_true']
  exact ⟨fun h => ⟨h.1.1, h.1.2.1, h.1.2.2, h.2⟩, fun h => ⟨⟨h.1, h.2.1, h.2.2.1⟩, h.2.2.2⟩⟩

theorem parts_args {nm : ByteArray} {ts : List Tm} (h : okT (tC nm ts) = true) : nm.size ≤ 64 ∧ badS nm = false ∧ 1 ≤ ts.length ∧ ts.length ≤ 8 ∧ plainL ts = true ∧ failL ts = false ∧ cntL ts + 1 ≤ 2000 ∧ depL ts + 1 ≤ 100 := by
  obtain ⟨h1, h2, h3, h4⟩ := (okT_iff _).1 h
  rw [tC, plainR, if_neg (by decide), if_neg (by decide), if_neg (by decide), if_pos rfl] at h1
  rw [tC, cnt, if_pos rfl] at h2
  rw [tC, dep, if_pos rfl] at h3
  rw [tC, failS, if_neg (by decide), if_pos rfl, Bool.or_eq_false_iff] at h4
  simp only [Bool.and_eq_true, decide_eq_true_eq] at h1
  exact ⟨h1.1.1.1, h4.1, h1.1.1.2, h1.1.2, h1.2, h4.2, h2, h3⟩
theorem parts_one {nm : ByteArray} {ts : List Tm} (h : okT (tC nm ts) = true) {x : Tm} (hx : x ∈ ts) : okT x = true := by
  obtain ⟨_, _, _, _, h5, h6, h7, h8⟩ := parts_args h
  rw [okT_iff]
  have := cntL_mem hx
  have := depL_mem hx
  exact ⟨plainL_mem h5 x hx, by omega, by omega, failL_mem h6 x hx⟩
theorem parts_text {nm : ByteArray} {ts : List Tm} (h : ¬ (nm = dotN ∧ ts.length = 2)) : termS (tC nm ts) = functorS nm ++ 40 :: (allS ts ++ [41]) := termS_C nm ts h
theorem parts_name {nm : ByteArray} {ts : List Tm} (h : okT (tC nm ts) = true) (h1 : ¬ nm = (⟨#[91, 93]⟩ : ByteArray)) (h2 : ¬ nm = (⟨#[123, 125]⟩ : ByteArray)) : nameS nm = (functorS nm, 0) := by
  obtain ⟨h3, h4, _⟩ := parts_args h
  unfold nameS
  rw [if_neg (by omega), h4, if_neg (by decide)]
  unfold atomS
  rw [if_neg (fun e => e.elim h1 h2)]

/-- What has been gathered of the arguments' texts. -/
theorem all_snoc : ∀ (ts : List Tm) (x : Tm), allS (ts ++ [x]) = allS ts ++ (if ts = [] then [] else [44]) ++ termS x
  | [], x => by rw [List.nil_append, allS_cons, moreS_nil, allS_nil]; simp
  | t :: ts, x => by
    rw [List.cons_append, allS_cons, allS_cons, moreS_append, moreS_cons, moreS_nil]
    simp
theorem all_take (ts : List Tm) (k : Nat) (x : Tm) (hx : ts[k]? = some x) : allS (ts.take (k + 1)) = (if k > 0 then allS (ts.take k) ++ [44] else allS (ts.take k)) ++ termS x := by
  obtain ⟨h, he⟩ := List.getElem?_eq_some_iff.1 hx
  rw [List.take_succ_eq_append_getElem h, he, all_snoc]
  by_cases hk : k > 0
  · rw [if_pos hk, if_neg]
    intro e
    have := congrArg List.length e
    rw [List.length_take, List.length_nil] at this
    omega
  · have : k = 0 := by omega
    subst this
    simp

theorem items_listT (tail : Tm) (ht : ¬ (tail.kind = 4 ∧ tail.name = dotN ∧ tail.args.length = 2)) : ∀ ts : List Tm, items (listT ts tail) = (ts, tail)
  | [] => items_end tail ht
  | t :: ts => by
    have ih := items_listT tail ht ts
    rw [show listT (t :: ts) tail = ⟨4, dotN, 0, [t, listT ts tail]⟩ from rfl, items_pair 4 dotN 0 t _ ⟨rfl, rfl⟩, ih]
theorem listT_pair (ts : List Tm) (tail : Tm) (h : 1 ≤ ts.length) : (listT ts tail).kind = 4 ∧ (listT ts tail).name = dotN ∧ (listT ts tail).args.length = 2 := by
  cases ts with
  | nil => simp at h
  | cons t ts => exact ⟨rfl, rfl, rfl⟩
theorem listT_text (ts : List Tm) (tail : Tm) (h : 1 ≤ ts.length) (ht : ¬ (tail.kind = 4 ∧ tail.name = dotN ∧ tail.args.length = 2)) : termS (listT ts tail) = 91 :: (allS ts ++ endS tail ++ [93]) := by
  rw [termS_items _ (listT_pair ts tail h), items_listT tail ht]
theorem listT_same (tail tail' : Tm) (h1 : plainR tail = plainR tail') (h2 : cnt tail = cnt tail') (h3 : dep tail = dep tail') : ∀ ts : List Tm, plainR (listT ts tail) = plainR (listT ts tail') ∧ cnt (listT ts tail) = cnt (listT ts tail') ∧ dep (listT ts tail) = dep (listT ts tail')
  | [] => ⟨h1, h2, h3⟩
  | t :: ts => by
    obtain ⟨a, b, c⟩ := listT_same tail tail' h1 h2 h3 ts
    rw [show listT (t :: ts) tail = ⟨4, dotN, 0, [t, listT ts tail]⟩ from rfl, show listT (t :: ts) tail' = ⟨4, dotN, 0, [t, listT ts tail']⟩ from rfl]
    refine ⟨?_, ?_, ?_⟩
    · rw [plainR, plainR, plainL, plainL, plainL, plainL, plainL, plainL, a]
      rfl
    · rw [cnt, cnt, cntL, cntL, cntL, cntL, cntL, cntL, b]
    · rw [dep, dep, depL, depL, depL, depL, depL, depL, c]
theorem listT_fail (tail : Tm) (h : failS tail = false) : ∀ ts : List Tm, failL ts = false → failS (listT ts tail) = false
  | [], _ => h
  | t :: ts, hf => by
    rw [failL, Bool.or_eq_false_iff] at hf
    have ih := listT_fail tail h ts hf.2
    rw [show listT (t :: ts) tail = ⟨4, dotN, 0, [t, listT ts tail]⟩ from rfl, failS, if_neg (by decide), if_pos rfl, failL, failL, failL, ih, hf.1, show badS dotN = false from by decide +kernel]
    rfl

/-- The two lists: right together, and their texts. -/
theorem parts_lists {nm : ByteArray} {ts : List Tm} (h : okT (tC nm ts) = true) :
    (rightB (listT ts (tA nilN)) = false → textR (listT ts (tA nilN)) = ([], 70)) ∧
    (rightB (listT ts (tA nilN)) = true → textR (listT ts (tA nilN)) = (91 :: (allS ts ++ [93]), 0) ∧ textR (listT ts (tN 7)) = (91 :: (allS ts ++ [124, 55, 93]), 0)) := by
  obtain ⟨_, _, h3, _, _, h6, _, _⟩ := parts_args h
  constructor
  · intro hr
    unfold textR
    rw [hr, if_neg (by decide)]
  · intro hr
    have f1 := listT_fail (tA nilN) (by decide +kernel) ts h6
    have f2 := listT_fail (tN 7) (by decide +kernel) ts h6
    obtain ⟨a, b, c⟩ := listT_same (tA nilN) (tN 7) (by decide +kernel) (by decide +kernel) (by decide +kernel) ts
    have hr2 : rightB (listT ts (tN 7)) = true := by
      rw [rightB_iff] at hr ⊢
      rw [← a, ← b, ← c]
      exact hr
    have i7 : Lib.itoa 7 = [55] := itoa_lit 7 (by decide)
    constructor
    · rw [textR, if_pos hr, f1, if_neg (by decide), listT_text ts _ h3 (by decide)]
      rw [show endS (tA nilN) = [] from by unfold endS; rw [if_pos ⟨rfl, rfl⟩]]
      simp
    · rw [textR, if_pos hr2, f2, if_neg (by decide), listT_text ts _ h3 (by decide)]
      rw [show endS (tN 7) = [124, 55] from by unfold endS; rw [if_neg (by decide), termS_N, i7]]
      simp

theorem all_prefix (xs ys : List Tm) : (allS xs).length ≤ (allS (xs ++ ys)).length := by
  cases xs with
  | nil => rw [allS_nil]; simp
  | cons x xs => rw [List.cons_append, allS_cons, allS_cons, moreS_append]; simp
/-- How long the texts are. -/
theorem parts_len {nm : ByteArray} {ts : List Tm} (h : okT (tC nm ts) = true) (hr : rngL ts = true) :
    (∀ j, (allS (ts.take j)).length ≤ 400000) ∧ (∀ x ∈ ts, (termS x).length ≤ 400000) ∧ (functorS nm).length ≤ 200 := by
  obtain ⟨h1, _, _, _, h5, _, h7, _⟩ := parts_args h
  have hl := (text_length _).2 ts (Nat.le_refl _) h5 hr
  refine ⟨fun j => ?_, fun x hx => ?_, ?_⟩
  · have := all_prefix (ts.take j) (ts.drop j)
    rw [List.take_append_drop] at this
    omega
  · have := ((text_length _).1 x (Nat.le_refl _) (plainL_mem h5 x hx) (rngL_mem hr x hx)).1
    have := cntL_mem hx
    omega
  · have := functorS_length nm
    omega
theorem listT_rng (tail : Tm) (h : rngT tail = true) : ∀ ts : List Tm, rngL ts = true → rngT (listT ts tail) = true
  | [], _ => h
  | t :: ts, hf => by
    rw [rngL, Bool.and_eq_true] at hf
    have ih := listT_rng tail h ts hf.2
    rw [show listT (t :: ts) tail = ⟨4, dotN, 0, [t, listT ts tail]⟩ from rfl, rngT, rngL, rngL, rngL, hf.1, ih]
    rfl
end Go.Proofs.YtgidbplaoijalaaGreatRDoor

/- The walks of pythiaref07's Size, Depth, plain, Right. -/
namespace Go.Proofs.YtgidbplaoijalaaGreatRDoor
set_option linter.unusedSimpArgs false
open Go.RowKit Go.Proofs.YtgidbplaoijalaaGreatRDoorW.PrintWords
set_option linter.unusedVariables false

set_option maxHeartbeats 2000000 in
set_option maxRecDepth 100000 in
theorem size_step {N : Nat} (ih : ∀ t : Tm, SizeOf.sizeOf t ≤ N → ∀ (most : Int) (A : Option Addr) (c : Nat) (ok : Nat → Prop) (w : World), 0 ≤ most → most ≤ 2000 → Kd.F kTm w ok A t.args.length t.args →
      Calls Tryz.prog 44 #[tmV t A c, .int .i64 most] w fun e w' => e = .returned (.int .i64 (sizeF t most)) ∧ Stay w w' NoS)
    (t : Tm) (hz : SizeOf.sizeOf t ≤ N + 1) (most : Int) (A : Option Addr) (c : Nat) (ok : Nat → Prop) (w : World) (m0 : 0 ≤ most) (m1 : most ≤ 2000) (hF : Kd.F kTm w ok A t.args.length t.args) :
    Calls Tryz.prog 44 #[tmV t A c, .int .i64 most] w fun e w' => e = .returned (.int .i64 (sizeF t most)) ∧ Stay w w' NoS := by
  obtain ⟨k, nm, i, ts⟩ := t
  have hs : sizeF ⟨k, nm, i, ts⟩ most = if k = 4 then sizeFL ts 1 most else 1 := by rw [sizeF]
  generalize sizeF ⟨k, nm, i, ts⟩ most = R at hs ⊢
  simp only at hF
  rw [show tmV ⟨k, nm, i, ts⟩ A c = .agg #[.int .i64 k, .string nm, .int .i64 i, .slice A ts.length c] from rfl]
  by_cases h4 : k = 4
  · subst h4
    rw [if_pos rfl] at hs
    have hmax := Kd.F_max hF
    have Hs := hide hs
    have HF := hide hF
    have HI := hide ih
    have Hz : Hid (SizeOf.sizeOf ts ≤ N) := hide (by simp at hz; omega)
    clear hs hF ih hz
    go_enter Tryz.func44, Tryz.ntmps44
    go_wp2_with fail
    go_loopw [5, 6] (fun n x wr => ∃ (j : Nat) (v : Int), n = .int .i64 v ∧ x = .int .i64 j ∧ j ≤ ts.length ∧ 1 ≤ v ∧ v ≤ most + 1 ∧ R = sizeFL (ts.drop j) v most ∧ Stay w wr NoS ∧ TB w.heap.size 4 nm i (.slice A ts.length c) wr) (fun _ x _ => ts.length - (intOf x).toNat)
    case atStart => exact ⟨0, 1, rfl, rfl, Nat.zero_le _, by omega, by omega, Hs.out, (Stay.refl _ _).alloc _, heap_alloc_new _ _⟩
    case round =>
      obtain ⟨j, v, rfl, rfl, hj, v0, v1, heq, hst, htb⟩ := hrel
      have r3 : wr.cell? ⟨w.heap.size, 3, none⟩ = _ := cell_of htb 3 _ rfl
      have Heq := hide heq
      have Hst := hide hst
      have Htb := hide htb
      clear heq hst htb Hs
      by_cases hlt : j < ts.length
      · obtain ⟨x, hx⟩ : ∃ x, ts[j]? = some x := ⟨_, List.getElem?_eq_getElem hlt⟩
        have hdx : ts.drop j = x :: ts.drop (j + 1) := by rw [List.drop_eq_getElem_cons hlt, ← (List.getElem?_eq_some_iff.1 hx).2]
        rw [hdx, sizeFL] at Heq
        by_cases hv : v ≤ most
        · rw [if_pos hv] at Heq
          obtain ⟨ad, A3, c3, rfl, g0, g1, g2, g3, hl3, hF3, hok3⟩ := tm_at (Hst.out.F HF.out (fun _ _ e => e)) j x hx
          have hxz : SizeOf.sizeOf x ≤ N := by
            have := List.sizeOf_lt_of_mem (List.mem_of_getElem? hx)
            have := Hz.out
            omega
          have hb := (sizeF_law _).1 x (Nat.le_refl _) (most - v) (by omega)
          have hcall := HI.out x hxz (most - v) A3 c3 _ wr (by omega) (by omega) hF3
          have Hcall := hide hcall
          obtain ⟨_, _, hb1, hb2⟩ := hb
          generalize sizeF x (most - v) = z at Heq Hcall hb1 hb2
          clear hx hdx hF3 hcall
          go_wp2_with fail
          refine Hcall.out.mono ?_
          rintro e w4 ⟨rfl, hs4⟩
          have htb4 := Htb.out.stay hs4 (fun e => e)
          have Htb4 := hide htb4
          have Hs4 := hide (Hst.out.trans hs4 (fun _ _ e => e))
          clear htb4 hs4
          go_wp2_with fail
          go_roundw
          case rel => exact ⟨j + 1, v + z, rfl, by go_num, by omega, by omega, by omega, Heq.out, Hs4.out, Htb4.out⟩
          case measure => simp [intOf]; omega
        · rw [if_neg hv] at Heq
          clear hx hdx
          go_wp2_with fail
          go_ret
          exact ⟨(by rw [Heq.out]; rfl), Hst.out⟩
      · have hje : j = ts.length := by omega
        subst hje
        rw [List.drop_length, sizeFL] at Heq
        go_wp2_with fail
        go_ret
        exact ⟨(by rw [Heq.out]; rfl), Hst.out⟩
  · rw [if_neg h4] at hs
    subst hs
    have h4f : (k == 4) = false := by simp [h4]
    clear hF ih hz
    go_enter Tryz.func44, Tryz.ntmps44
    go_wp2_with fail
    go_ret
    exact ⟨rfl, (Stay.refl _ _).alloc _⟩

theorem size_any (N : Nat) : ∀ t : Tm, SizeOf.sizeOf t ≤ N → ∀ (most : Int) (A : Option Addr) (c : Nat) (ok : Nat → Prop) (w : World), 0 ≤ most → most ≤ 2000 → Kd.F kTm w ok A t.args.length t.args →
      Calls Tryz.prog 44 #[tmV t A c, .int .i64 most] w fun e w' => e = .returned (.int .i64 (sizeF t most)) ∧ Stay w w' NoS := by
  induction N with
  | zero => intro t h; cases t; simp at h
  | succ N ih => exact fun t hz most A c ok w h0 h1 hF => size_step ih t hz most A c ok w h0 h1 hF

set_option maxHeartbeats 2000000 in
set_option maxRecDepth 100000 in
theorem depth_step {N : Nat} (ih : ∀ t : Tm, SizeOf.sizeOf t ≤ N → ∀ (left : Int) (A : Option Addr) (c : Nat) (ok : Nat → Prop) (w : World), 0 ≤ left → left ≤ 2000 → Kd.F kTm w ok A t.args.length t.args →
      Calls Tryz.prog 45 #[tmV t A c, .int .i64 left] w fun e w' => e = .returned (.int .i64 (depF t left)) ∧ Stay w w' NoS)
    (t : Tm) (hz : SizeOf.sizeOf t ≤ N + 1) (left : Int) (A : Option Addr) (c : Nat) (ok : Nat → Prop) (w : World) (m0 : 0 ≤ left) (m1 : left ≤ 2000) (hF : Kd.F kTm w ok A t.args.length t.args) :
    Calls Tryz.prog 45 #[tmV t A c, .int .i64 left] w fun e w' => e = .returned (.int .i64 (depF t left)) ∧ Stay w w' NoS := by
  obtain ⟨k, nm, i, ts⟩ := t
  have hs : depF ⟨k, nm, i, ts⟩ left = if left ≤ 0 ∨ ¬ k = 4 then 1 else depFL ts 0 left + 1 := by rw [depF]
  generalize depF ⟨k, nm, i, ts⟩ left = R at hs ⊢
  simp only at hF
  rw [show tmV ⟨k, nm, i, ts⟩ A c = .agg #[.int .i64 k, .string nm, .int .i64 i, .slice A ts.length c] from rfl]
  by_cases h0 : left ≤ 0
  · rw [if_pos (.inl h0)] at hs
    subst hs
    clear hF ih hz
    go_enter Tryz.func45, Tryz.ntmps45
    go_wp2_with fail
    go_ret
    exact ⟨rfl, (Stay.refl _ _).alloc _⟩
  by_cases h4 : k = 4
  · subst h4
    rw [if_neg (by omega)] at hs
    have hmax := Kd.F_max hF
    have Hs := hide hs
    have HF := hide hF
    have HI := hide ih
    have Hz : Hid (SizeOf.sizeOf ts ≤ N) := hide (by simp at hz; omega)
    clear hs hF ih hz
    go_enter Tryz.func45, Tryz.ntmps45
    go_wp2_with fail
    go_loopw [5, 6, 7] (fun d x y wr => ∃ (j : Nat) (v : Int), d = .int .i64 v ∧ x = .int .i64 j ∧ j ≤ ts.length ∧ 0 ≤ v ∧ v ≤ left ∧ R = depFL (ts.drop j) v left + 1 ∧ Stay w wr NoS ∧ TB w.heap.size 4 nm i (.slice A ts.length c) wr) (fun _ x _ _ => ts.length - (intOf x).toNat)
    case atStart => exact ⟨0, 0, rfl, rfl, Nat.zero_le _, by omega, by omega, Hs.out, (Stay.refl _ _).alloc _, heap_alloc_new _ _⟩
    case round =>
      obtain ⟨j, v, rfl, rfl, hj, v0, v1, heq, hst, htb⟩ := hrel
      have r3 : wr.cell? ⟨w.heap.size, 3, none⟩ = _ := cell_of htb 3 _ rfl
      have Heq := hide heq
      have Hst := hide hst
      have Htb := hide htb
      clear heq hst htb Hs
      by_cases hlt : j < ts.length
      · obtain ⟨x, hx⟩ : ∃ x, ts[j]? = some x := ⟨_, List.getElem?_eq_getElem hlt⟩
        have hdx : ts.drop j = x :: ts.drop (j + 1) := by rw [List.drop_eq_getElem_cons hlt, ← (List.getElem?_eq_some_iff.1 hx).2]
        rw [hdx, depFL] at Heq
        obtain ⟨ad, A3, c3, rfl, g0, g1, g2, g3, hl3, hF3, hok3⟩ := tm_at (Hst.out.F HF.out (fun _ _ e => e)) j x hx
        have hxz : SizeOf.sizeOf x ≤ N := by
          have := List.sizeOf_lt_of_mem (List.mem_of_getElem? hx)
          have := Hz.out
          omega
        have hb := (depF_law _).1 x (Nat.le_refl _) (left - 1) (by omega)
        have hb2 : depF x (left - 1) ≤ left := by omega
        have hb1 : 0 ≤ depF x (left - 1) := by omega
        have hcall := HI.out x hxz (left - 1) A3 c3 _ wr (by omega) (by omega) hF3
        have Hcall := hide hcall
        generalize depF x (left - 1) = z at Heq Hcall hb1 hb2
        clear hx hdx hF3 hcall hb
        go_wp2_with fail
        refine Hcall.out.mono ?_
        rintro e w4 ⟨rfl, hs4⟩
        have htb4 := Htb.out.stay hs4 (fun e => e)
        have Htb4 := hide htb4
        have Hs4 := hide (Hst.out.trans hs4 (fun _ _ e => e))
        clear htb4 hs4
        by_cases hzv : z > v
        · rw [if_pos hzv] at Heq
          have hzv' : v < z := hzv
          clear hzv
          go_wp2_with fail
          go_roundw
          case rel => exact ⟨j + 1, z, rfl, by go_num, by omega, by omega, by omega, Heq.out, Hs4.out, Htb4.out⟩
          case measure => simp [intOf]; omega
        · rw [if_neg hzv] at Heq
          have hzv' : z ≤ v := by omega
          clear hzv
          go_wp2_with fail
          go_roundw
          case rel => exact ⟨j + 1, v, rfl, by go_num, by omega, by omega, by omega, Heq.out, Hs4.out, Htb4.out⟩
          case measure => simp [intOf]; omega
      · have hje : j = ts.length := by omega
        subst hje
        rw [List.drop_length, depFL] at Heq
        go_wp2_with fail
        go_ret
        exact ⟨(by rw [Heq.out]; rfl), Hst.out⟩
  · rw [if_pos (.inr h4)] at hs
    subst hs
    have h4f : (k != 4) = true := by simp [h4]
    clear hF ih hz
    go_enter Tryz.func45, Tryz.ntmps45
    go_wp2_with fail
    go_ret
    exact ⟨rfl, (Stay.refl _ _).alloc _⟩

theorem depth_any (N : Nat) : ∀ t : Tm, SizeOf.sizeOf t ≤ N → ∀ (left : Int) (A : Option Addr) (c : Nat) (ok : Nat → Prop) (w : World), 0 ≤ left → left ≤ 2000 → Kd.F kTm w ok A t.args.length t.args →
      Calls Tryz.prog 45 #[tmV t A c, .int .i64 left] w fun e w' => e = .returned (.int .i64 (depF t left)) ∧ Stay w w' NoS := by
  induction N with
  | zero => intro t h; cases t; simp at h
  | succ N ih => exact fun t hz left A c ok w h0 h1 hF => depth_step ih t hz left A c ok w h0 h1 hF

set_option maxHeartbeats 2000000 in
set_option maxRecDepth 100000 in
theorem plain_step {N : Nat} (ih : ∀ t : Tm, SizeOf.sizeOf t ≤ N → ∀ (left : Int) (A : Option Addr) (c : Nat) (ok : Nat → Prop) (w : World), 0 ≤ left → left ≤ 2000 → Kd.F kTm w ok A t.args.length t.args →
      Calls Tryz.prog 46 #[tmV t A c, .int .i64 left] w fun e w' => e = .returned (.bool (plainF t left)) ∧ Stay w w' NoS)
    (t : Tm) (hz : SizeOf.sizeOf t ≤ N + 1) (left : Int) (A : Option Addr) (c : Nat) (ok : Nat → Prop) (w : World) (m0 : 0 ≤ left) (m1 : left ≤ 2000) (hF : Kd.F kTm w ok A t.args.length t.args) :
    Calls Tryz.prog 46 #[tmV t A c, .int .i64 left] w fun e w' => e = .returned (.bool (plainF t left)) ∧ Stay w w' NoS := by
  obtain ⟨k, nm, i, ts⟩ := t
  have hs : plainF ⟨k, nm, i, ts⟩ left = if left ≤ 0 then false else if k = 1 then decide (i ≥ 1) else if k = 2 then true else if k = 3 then decide ((nm.size : Int) ≤ 64)
    else if k = 4 then (if (nm.size : Int) > 64 ∨ ts.length < 1 ∨ ts.length > 8 then false else plainFL ts left) else false := by rw [plainF]
  generalize plainF ⟨k, nm, i, ts⟩ left = R at hs ⊢
  simp only at hF
  have hmax := Kd.F_max hF
  rw [show tmV ⟨k, nm, i, ts⟩ A c = .agg #[.int .i64 k, .string nm, .int .i64 i, .slice A ts.length c] from rfl]
  by_cases h0 : left ≤ 0
  · rw [if_pos h0] at hs
    subst hs
    clear hF ih hz
    go_enter Tryz.func46, Tryz.ntmps46
    go_wp2_with fail
    go_ret
    exact ⟨rfl, (Stay.refl _ _).alloc _⟩
  rw [if_neg h0] at hs
  by_cases h1 : k = 1
  · rw [if_pos h1] at hs
    subst hs h1
    clear hF ih hz
    go_enter Tryz.func46, Tryz.ntmps46
    go_wp2_with fail
    go_ret
    exact ⟨rfl, (Stay.refl _ _).alloc _⟩
  rw [if_neg h1] at hs
  by_cases h2 : k = 2
  · rw [if_pos h2] at hs
    subst hs h2
    clear hF ih hz
    go_enter Tryz.func46, Tryz.ntmps46
    go_wp2_with fail
    go_ret
    exact ⟨rfl, (Stay.refl _ _).alloc _⟩
  rw [if_neg h2] at hs
  by_cases h3 : k = 3
  · rw [if_pos h3] at hs
    subst hs h3
    clear hF ih hz
    go_enter Tryz.func46, Tryz.ntmps46
    go_wp2_with fail
    go_ret
    exact ⟨rfl, (Stay.refl _ _).alloc _⟩
  rw [if_neg h3] at hs
  by_cases h4 : k = 4
  · rw [if_pos h4] at hs
    subst h4
    clear h1 h2 h3
    by_cases hn : (nm.size : Int) > 64
    · rw [if_pos (.inl hn)] at hs
      subst hs
      have hn' : (64 : Int) < nm.size := hn
      clear hF ih hz hn
      go_enter Tryz.func46, Tryz.ntmps46
      go_wp2_with fail
      go_ret
      exact ⟨rfl, (Stay.refl _ _).alloc _⟩
    have hn' : (nm.size : Int) ≤ 64 := by omega
    by_cases hl1 : ts.length < 1
    · rw [if_pos (.inr (.inl hl1))] at hs
      subst hs
      have hl1' : (ts.length : Int) < 1 := by omega
      clear hF ih hz hn hl1
      go_enter Tryz.func46, Tryz.ntmps46
      go_wp2_with fail
      go_ret
      exact ⟨rfl, (Stay.refl _ _).alloc _⟩
    have hl1' : (1 : Int) ≤ ts.length := by omega
    by_cases hl8 : ts.length > 8
    · rw [if_pos (.inr (.inr hl8))] at hs
      subst hs
      have hl8' : (8 : Int) < ts.length := by omega
      clear hF ih hz hn hl1 hl8
      go_enter Tryz.func46, Tryz.ntmps46
      go_wp2_with fail
      go_ret
      exact ⟨rfl, (Stay.refl _ _).alloc _⟩
    have hl8' : (ts.length : Int) ≤ 8 := by omega
    rw [if_neg (by omega)] at hs
    clear hn hl1 hl8
    have Hs := hide hs
    have HF := hide hF
    have HI := hide ih
    have Hz : Hid (SizeOf.sizeOf ts ≤ N) := hide (by simp at hz; omega)
    clear hs hF ih hz
    go_enter Tryz.func46, Tryz.ntmps46
    go_wp2_with fail
    go_loopw [5] (fun x wr => ∃ (j : Nat), x = .int .i64 j ∧ j ≤ ts.length ∧ R = plainFL (ts.drop j) left ∧ Stay w wr NoS ∧ TB w.heap.size 4 nm i (.slice A ts.length c) wr) (fun x _ => ts.length - (intOf x).toNat)
    case atStart => exact ⟨0, rfl, Nat.zero_le _, Hs.out, (Stay.refl _ _).alloc _, heap_alloc_new _ _⟩
    case round =>
      obtain ⟨j, rfl, hj, heq, hst, htb⟩ := hrel
      have r3 : wr.cell? ⟨w.heap.size, 3, none⟩ = _ := cell_of htb 3 _ rfl
      have Heq := hide heq
      have Hst := hide hst
      have Htb := hide htb
      clear heq hst htb Hs
      by_cases hlt : j < ts.length
      · obtain ⟨x, hx⟩ : ∃ x, ts[j]? = some x := ⟨_, List.getElem?_eq_getElem hlt⟩
        have hdx : ts.drop j = x :: ts.drop (j + 1) := by rw [List.drop_eq_getElem_cons hlt, ← (List.getElem?_eq_some_iff.1 hx).2]
        rw [hdx, plainFL] at Heq
        obtain ⟨ad, A3, c3, rfl, g0, g1, g2, g3, hl3, hF3, hok3⟩ := tm_at (Hst.out.F HF.out (fun _ _ e => e)) j x hx
        have hxz : SizeOf.sizeOf x ≤ N := by
          have := List.sizeOf_lt_of_mem (List.mem_of_getElem? hx)
          have := Hz.out
          omega
        have hcall := HI.out x hxz (left - 1) A3 c3 _ wr (by omega) (by omega) hF3
        have Hcall := hide hcall
        generalize plainF x (left - 1) = z at Heq Hcall
        clear hx hdx hF3 hcall
        go_wp2_with fail
        refine Hcall.out.mono ?_
        rintro e w4 ⟨rfl, hs4⟩
        have htb4 := Htb.out.stay hs4 (fun e => e)
        have Htb4 := hide htb4
        have Hs4 := hide (Hst.out.trans hs4 (fun _ _ e => e))
        clear htb4 hs4
        cases z with
        | true =>
          rw [if_pos rfl] at Heq
          go_wp2_with fail
          go_roundw
          case rel => exact ⟨j + 1, by go_num, by omega, Heq.out, Hs4.out, Htb4.out⟩
          case measure => simp [intOf]; omega
        | false =>
          rw [if_neg (by decide)] at Heq
          go_wp2_with fail
          go_ret
          exact ⟨(by rw [Heq.out]; rfl), Hs4.out⟩
      · have hje : j = ts.length := by omega
        subst hje
        rw [List.drop_length, plainFL] at Heq
        go_wp2_with fail
        go_ret
        exact ⟨(by rw [Heq.out]; rfl), Hst.out⟩
  · rw [if_neg h4] at hs
    subst hs
    have h1f : (k == 1) = false := by simp [h1]
    have h2f : (k == 2) = false := by simp [h2]
    have h3f : (k == 3) = false := by simp [h3]
    have h4f : (k == 4) = false := by simp [h4]
    clear hF ih hz h1 h2 h3 h4
    go_enter Tryz.func46, Tryz.ntmps46
    go_wp2_with fail
    go_ret
    exact ⟨rfl, (Stay.refl _ _).alloc _⟩

theorem plain_any (N : Nat) : ∀ t : Tm, SizeOf.sizeOf t ≤ N → ∀ (left : Int) (A : Option Addr) (c : Nat) (ok : Nat → Prop) (w : World), 0 ≤ left → left ≤ 2000 → Kd.F kTm w ok A t.args.length t.args →
      Calls Tryz.prog 46 #[tmV t A c, .int .i64 left] w fun e w' => e = .returned (.bool (plainF t left)) ∧ Stay w w' NoS := by
  induction N with
  | zero => intro t h; cases t; simp at h
  | succ N ih => exact fun t hz left A c ok w h0 h1 hF => plain_step ih t hz left A c ok w h0 h1 hF

set_option maxHeartbeats 1000000 in
set_option maxRecDepth 100000 in
/-- pythiaref07.Right. -/
theorem right07_tv {t : Tm} {v : Value} {w : World} (h : TV t v w) : Calls Tryz.prog 19 #[v] w fun e w' => e = .returned (.bool (rightB t)) ∧ Stay w w' NoS := by
  obtain ⟨A, c, ok, rfl, hc, hF⟩ := h
  have hsz := fun W (hW : Stay w W NoS) => size_any (SizeOf.sizeOf t) t (Nat.le_refl _) 2000 A c ok W (by decide) (by decide) (hW.F hF (fun _ _ e => e))
  have hdp := fun W (hW : Stay w W NoS) => depth_any (SizeOf.sizeOf t) t (Nat.le_refl _) 101 A c ok W (by decide) (by decide) (hW.F hF (fun _ _ e => e))
  have hpl := fun W (hW : Stay w W NoS) => plain_any (SizeOf.sizeOf t) t (Nat.le_refl _) 100 A c ok W (by decide) (by decide) (hW.F hF (fun _ _ e => e))
  have hlaw := right_law t
  generalize sizeF t 2000 = s at hsz hlaw
  generalize depF t 101 = d at hdp hlaw
  generalize plainF t 100 = p at hpl hlaw
  generalize rightB t = R at hlaw ⊢
  have Hsz := hide hsz
  have Hdp := hide hdp
  have Hpl := hide hpl
  have Hlaw := hide hlaw
  clear hsz hdp hpl hlaw hF hc
  obtain ⟨k, nm, i, ts⟩ := t
  rw [show tmV ⟨k, nm, i, ts⟩ A c = .agg #[.int .i64 k, .string nm, .int .i64 i, .slice A ts.length c] from rfl] at *
  go_enter Tryz.func19, Tryz.ntmps19
  go_wp2_with fail
  refine (Hsz.out _ ((Stay.refl _ _).alloc _)).mono ?_
  rintro e w1 ⟨rfl, s1⟩
  have htb1 := TB.stay (show TB w.heap.size k nm i (.slice A ts.length c) _ from heap_alloc_new _ _) s1 (fun e => e)
  have Hs1 := hide (((Stay.refl w NoS).alloc _).trans s1 (fun _ _ e => e))
  have Htb1 := hide htb1
  have q0 : w1.cell? ⟨w.heap.size, 0, none⟩ = _ := cell_of htb1 0 _ rfl
  have q1 : w1.cell? ⟨w.heap.size, 1, none⟩ = _ := cell_of htb1 1 _ rfl
  have q2 : w1.cell? ⟨w.heap.size, 2, none⟩ = _ := cell_of htb1 2 _ rfl
  have q3 : w1.cell? ⟨w.heap.size, 3, none⟩ = _ := cell_of htb1 3 _ rfl
  clear s1 htb1
  by_cases h1 : s ≤ 2000
  · go_wp2_with fail
    refine (Hdp.out _ Hs1.out).mono ?_
    rintro e w2 ⟨rfl, s2⟩
    have htb2 := Htb1.out.stay s2 (fun e => e)
    have Hs2 := hide (Hs1.out.trans s2 (fun _ _ e => e))
    have p0 : w2.cell? ⟨w.heap.size, 0, none⟩ = _ := cell_of htb2 0 _ rfl
    have p1 : w2.cell? ⟨w.heap.size, 1, none⟩ = _ := cell_of htb2 1 _ rfl
    have p2 : w2.cell? ⟨w.heap.size, 2, none⟩ = _ := cell_of htb2 2 _ rfl
    have p3 : w2.cell? ⟨w.heap.size, 3, none⟩ = _ := cell_of htb2 3 _ rfl
    clear s2 htb2 q0 q1 q2 q3
    by_cases h2 : d ≤ 100
    · go_wp2_with fail
      refine (Hpl.out _ Hs2.out).mono ?_
      rintro e w3 ⟨rfl, s3⟩
      go_wp2_with fail
      go_ret
      exact ⟨by rw [← Hlaw.out]; simp [h1, h2], Hs2.out.trans s3 (fun _ _ e => e)⟩
    · have h2' : decide (d ≤ 100) = false := by simpa using h2
      go_wp2_with fail
      go_ret
      exact ⟨by rw [← Hlaw.out, h2']; simp, Hs2.out⟩
  · have h1' : decide (s ≤ 2000) = false := by simpa using h1
    go_wp2_with fail
    go_ret
    exact ⟨by rw [← Hlaw.out, h1']; simp, Hs1.out⟩
end Go.Proofs.YtgidbplaoijalaaGreatRDoor

/- The walk of pythialaw11.WriteParts: it returns true. -/
namespace Go.Proofs.YtgidbplaoijalaaGreatRDoor
set_option linter.unusedSimpArgs false
open Go.RowKit Go.Proofs.YtgidbplaoijalaaGreatRDoorW.PrintWords
set_option linter.unusedVariables false

theorem bs_append (a b : List UInt8) : bs a ++ bs b = bs (a ++ b) := by
  apply ByteArray.ext
  simp [bs, ByteArray.data_append]

set_option maxHeartbeats 4000000 in
set_option maxRecDepth 100000 in
theorem parts_any (nm : ByteArray) (ts : List Tm) (v : Value) (w : World) (hL : Laid w) (hv : RV ts v w) (rr : rngL ts = true) (hnm : nm.size ≤ 140737488351232) :
    Calls Tryz.prog 4 #[.string nm, v] w fun e w' => e = .returned (.bool true) ∧ Stay w w' NoS := by
  have hrt : rngT (tC nm ts) = true := by rw [tC, rngT, rr]; rfl
  have htx := fun W (h : Stay w W NoS) (A : Option Addr) (c : Nat) (hx : v = .slice A ts.length c) => text_tv (t := tC nm ts) (v := .agg #[.int .i64 4, .string nm, .int .i64 0, .slice A ts.length c]) (w := W) (by
    obtain ⟨B, d, ok, h1, h2, h3⟩ := hv.stay h
    rw [hx] at h1
    injection h1 with h1 _ h4
    exact ⟨A, c, ok, rfl, by rw [h4]; exact h2, by rw [h1]; exact h3⟩) (hL.stay h (fun _ _ e => e)) hrt
  obtain ⟨A, c, ok, rfl, hc, hF⟩ := hv
  have htx := fun W h => htx W h A c rfl
  have hmax := Kd.F_max hF
  have HL := hide hL
  have HF := hide hF
  have Hrr := hide rr
  have Hc := hide hc
  clear hL hF rr hrt hc
  cases hot : okT (tC nm ts) with
  | false =>
    obtain ⟨z, hz, hz2⟩ := textR_no hot
    rw [hz] at htx
    have hne : (z != 0) = true := by rw [bne_iff_ne]; omega
    have hne' : (z == 0) = false := by rw [beq_eq_false_iff_ne]; omega
    have Htx := hide htx
    clear htx hz hz2 hot
    go_enter Tryz.func4, Tryz.ntmps4
    go_wp2_with fail
    refine (alive11_any _ HL.out).mono ?_
    rintro e w1 ⟨rfl, s1⟩
    have Hs1 := hide s1
    clear s1
    go_wp2_with fail
    refine (Htx.out _ (Hs1.out.alloc _)).mono ?_
    rintro e w2 ⟨he, s2⟩
    obtain rfl : e = .returned (.tuple #[.string ⟨#[]⟩, .int .i64 z]) := he
    have Hs2 := hide ((Hs1.out.alloc _).trans s2 (fun _ _ e => e))
    clear s2
    go_wp2_with fail
    go_ret
    exact ⟨rfl, Hs2.out⟩
  | true =>
    rw [(textR_ok hot).1] at htx
    by_cases hsp : (nm = dotN ∧ ts.length = 2) ∨ nm = (⟨#[91, 93]⟩ : ByteArray) ∨ nm = (⟨#[123, 125]⟩ : ByteArray)
    · have fin : ∀ W, Stay w W NoS → Calls Tryz.prog 13 #[.agg #[.int .i64 4, .string nm, .int .i64 0, .slice A ts.length c]] W fun e w' => e = .returned (.tuple #[.string (bs (termS (tC nm ts))), .int .i64 0]) ∧ Stay W w' NoS := htx
      generalize termS (tC nm ts) = lt at fin
      have Htx := hide fin
      clear htx fin hot
      rcases hsp with ⟨h1, h2⟩ | h1 | h1
      all_goals
        subst h1
        try rw [show dotN = (⟨#[46]⟩ : ByteArray) from rfl] at Htx ⊢
        try (have hl2 : ((ts.length : Int) == 2) = true := by rw [h2]; rfl)
        try clear h2
        go_enter Tryz.func4, Tryz.ntmps4
        go_wp2_with fail
        refine (alive11_any _ HL.out).mono ?_
        rintro e w1 ⟨rfl, s1⟩
        have Hs1 := hide s1
        clear s1
        go_wp2_with fail
        refine (Htx.out _ (Hs1.out.alloc _)).mono ?_
        rintro e w2 ⟨rfl, s2⟩
        have Hs2 := hide ((Hs1.out.alloc _).trans s2 (fun _ _ e => e))
        clear s2
        go_wp2_with fail
        go_ret
        exact ⟨rfl, Hs2.out⟩
    · have hn1 : ¬ nm = (⟨#[91, 93]⟩ : ByteArray) := fun h => hsp (.inr (.inl h))
      have hn2 : ¬ nm = (⟨#[123, 125]⟩ : ByteArray) := fun h => hsp (.inr (.inr h))
      have hn3 : ¬ (nm = dotN ∧ ts.length = 2) := fun h => hsp (.inl h)
      have hname := parts_name hot hn1 hn2
      have htext := parts_text hn3
      have hone : ∀ x ∈ ts, okT x = true := fun x hx => parts_one hot hx
      obtain ⟨hl70, hlok⟩ := parts_lists hot
      obtain ⟨hz64, _, hl1, hl8, _⟩ := parts_args hot
      obtain ⟨hlen1, hlen2, hlen3⟩ := parts_len hot Hrr.out
      have Hlen1 := hide hlen1
      have Hlen2 := hide hlen2
      clear hlen1 hlen2
      rw [htext] at htx
      have b1 : (nm.toList == [91, 93]) = false := by
        have : ¬ nm.toList = [91, 93] := fun h => hn1 (str_of h)
        simpa using this
      have b2 : (nm.toList == [123, 125]) = false := by
        have : ¬ nm.toList = [123, 125] := fun h => hn2 (str_of h)
        simpa using this
      have Hname := hide hname
      have Htx := hide htx
      have Hone := hide hone
      have Hl70 := hide hl70
      have Hlok := hide hlok
      have Hl1 := hide hl1
      clear hname htext hone hl70 hlok hsp hot htx
      have hdot : (nm.toList == [46]) = false ∨ (nm.toList == [46]) = true ∧ ((ts.length : Int) == 2) = false := by
        by_cases hd : nm = dotN
        · right
          refine ⟨by rw [hd, beq_iff_eq, Lib.toList_data]; rfl, ?_⟩
          rw [beq_eq_false_iff_ne]
          intro h
          exact hn3 ⟨hd, by omega⟩
        · left
          have : ¬ nm.toList = [46] := fun h => hd (str_of h)
          simpa using this
      clear hn1 hn2 hn3
      rcases hdot with b0 | ⟨b0, hl2⟩
      all_goals
        go_enter Tryz.func4, Tryz.ntmps4
        go_wp2_with fail
        refine (alive11_any _ HL.out).mono ?_
        rintro e w1 ⟨rfl, s1⟩
        have Hs1 := hide s1
        clear s1
        go_wp2_with fail
        refine (Htx.out _ (Hs1.out.alloc _)).mono ?_
        rintro e w2 ⟨rfl, s2⟩
        have Hs2 := hide ((Hs1.out.alloc _).trans s2 (fun _ _ e => e))
        clear s2
        go_wp2_with fail
        go_loopw [8, 9, 58] (fun x y z wr => ∃ (j : Nat) (l : List UInt8), x = .string (bs l) ∧ y = .string (bs l) ∧ z = .int .i64 j ∧ j ≤ ts.length ∧ l = allS (ts.take j) ∧ Stay w wr NoS) (fun _ _ z _ => ts.length - (intOf z).toNat)
        case atStart => exact ⟨0, [], rfl, rfl, rfl, Nat.zero_le _, by rw [List.take_zero, allS_nil], Hs2.out⟩
        case round =>
          obtain ⟨j, l, rfl, rfl, rfl, hj, hl, hst⟩ := hrel
          have Hst := hide hst
          have Hlj := hide hl
          clear hst hl
          by_cases hlt : j < ts.length
          · obtain ⟨x, hx⟩ : ∃ x, ts[j]? = some x := ⟨_, List.getElem?_eq_getElem hlt⟩
            obtain ⟨ad, A3, c3, rfl, g0, g1, g2, g3, hl3, hF3, hok3⟩ := tm_at (Hst.out.F HF.out (fun _ _ e => e)) j x hx
            have htx : ∀ W, Stay wr W NoS → Calls Tryz.prog 13 #[.agg #[.int .i64 x.kind, .string x.name, .int .i64 x.int, .slice A3 x.args.length c3]] W fun e w' => e = .returned (.tuple #[.string (bs (termS x)), .int .i64 0]) ∧ Stay W w' NoS := fun W hW => by
              have := text_tv (TV.of (t := x) hl3 (hW.F hF3 (fun _ _ e => e))) ((HL.out.stay Hst.out (fun _ _ e => e)).stay hW (fun _ _ e => e)) (rngL_mem Hrr.out x (List.mem_of_getElem? hx))
              rw [(textR_ok (Hone.out x (List.mem_of_getElem? hx))).1] at this
              exact this
            have hat := all_take ts j x hx
            have hb1 := Hlen1.out j
            have hb2 := Hlen2.out x (List.mem_of_getElem? hx)
            rw [← Hlj.out] at hat hb1
            generalize termS x = lx at htx hat hb2
            rw [← bs_size] at hb1 hb2
            have z1 : ¬ 9223372036854775807 < (bs l).size + 1 := by omega
            have z2 : ¬ 9223372036854775807 < (bs l).size + 1 + (bs lx).size := by omega
            have z3 : ¬ 9223372036854775807 < (bs l).size + (bs lx).size := by omega
            have Htx := hide htx
            have Hat := hide hat
            clear hx hF3 htx hat
            go_wp2_with fail
            refine (Htx.out _ ((Stay.refl _ _).alloc _)).mono ?_
            rintro e w3 ⟨rfl, s3⟩
            have Hs3 := hide (Hst.out.trans (((Stay.refl _ _).alloc _).trans s3 (fun _ _ e => e)) (fun _ _ e => e))
            clear s3 g0 g1 g2 g3 Htx
            by_cases hj0 : 0 < j
            · have hj0' : (0 : Int) < j := by omega
              go_wp2_with fail
              go_roundw
              case rel => exact ⟨j + 1, l ++ [44] ++ lx, (by rw [← bs_append, ← bs_append]; rfl), (by rw [← bs_append, ← bs_append]; rfl), by go_num, by omega, by rw [Hat.out, if_pos hj0], Hs3.out⟩
              case measure => simp [intOf]; omega
            · have hj0' : (j : Int) ≤ 0 := by omega
              go_wp2_with fail
              go_roundw
              case rel => exact ⟨j + 1, l ++ lx, (by rw [← bs_append]), (by rw [← bs_append]), by go_num, by omega, by rw [Hat.out, if_neg hj0], Hs3.out⟩
              case measure => simp [intOf]; omega
          · have hje : j = ts.length := by omega
            subst hje
            rw [List.take_length] at Hlj
            have hb1 := Hlen1.out ts.length
            rw [List.take_length, ← Hlj.out, ← bs_size] at hb1
            rw [← bs_size] at hlen3
            have z1 : ¬ 9223372036854775807 < (bs (functorS nm)).size + 1 := by omega
            have z2 : ¬ 9223372036854775807 < (bs (functorS nm)).size + 1 + (bs l).size := by omega
            have z3 : ¬ 9223372036854775807 < (bs (functorS nm)).size + 1 + (bs l).size + 1 := by omega
            have z4 : ¬ 9223372036854775807 < 1 + (bs l).size := by omega
            have z5 : ¬ 9223372036854775807 < 1 + (bs l).size + 1 := by omega
            have z6 : ¬ 9223372036854775807 < 1 + (bs l).size + 3 := by omega
            have e1 : ((bs (functorS nm ++ 40 :: (allS ts ++ [41]))).toList == (bs (functorS nm) ++ { data := #[40] } ++ bs l ++ { data := #[41] }).toList) = true := by
              rw [beq_iff_eq, ← Hlj.out, show ({ data := #[40] } : ByteArray) = bs [40] from rfl, show ({ data := #[41] } : ByteArray) = bs [41] from rfl, bs_append, bs_append, bs_append]
              simp
            have e2 : ((bs (91 :: (allS ts ++ [93]))).toList == ({ data := #[91] } ++ bs l ++ { data := #[93] }).toList) = true := by
              rw [beq_iff_eq, ← Hlj.out, show ({ data := #[91] } : ByteArray) = bs [91] from rfl, show ({ data := #[93] } : ByteArray) = bs [93] from rfl, bs_append, bs_append]
              simp
            have e3 : ((bs (91 :: (allS ts ++ [124, 55, 93]))).toList == ({ data := #[91] } ++ bs l ++ { data := #[124, 55, 93] }).toList) = true := by
              rw [beq_iff_eq, ← Hlj.out, show ({ data := #[91] } : ByteArray) = bs [91] from rfl, show ({ data := #[124, 55, 93] } : ByteArray) = bs [124, 55, 93] from rfl, bs_append, bs_append]
              simp
            have hr1 := listT_rng (tA nilN) (by decide +kernel) ts Hrr.out
            have hr2 := listT_rng (tN 7) (by decide +kernel) ts Hrr.out
            have Hr1 := hide hr1
            have Hr2 := hide hr2
            have hRV : ∀ W, Stay w W NoS → RV ts (.slice A ts.length c) W := fun W hW => ⟨A, c, ok, rfl, Hc.out, hW.F HF.out (fun _ _ e => e)⟩
            have HRV := hide hRV
            clear hr1 hr2 hRV htx
            go_wp2_with fail
            refine (name_any nm _ (HL.out.stay Hst.out (fun _ _ e => e))).mono ?_
            rintro e w3 ⟨he, s3⟩
            rw [Hname.out] at he
            subst he
            have Hs3 := hide (Hst.out.trans s3 (fun _ _ e => e))
            clear s3
            go_wp2_with fail
            refine (a_lit _ _).mono ?_
            rintro e w4 ⟨rfl, s4⟩
            have Hs4 := hide (Hs3.out.trans s4 (fun _ _ e => e))
            clear s4
            go_wp2_with fail
            refine (list_tv (tail := tA nilN) (HRV.out _ Hs4.out) (TV.leaf 3 ⟨#[91, 93]⟩ 0 _)).mono ?_
            rintro e w5 ⟨v5, rfl, h5, s5⟩
            have Hs5 := hide (Hs4.out.trans s5 (fun _ _ e => e))
            clear s5
            have hlist2 : ∀ W, Stay w W NoS → Calls Tryz.prog 16 #[.slice A ts.length c, .agg #[.int .i64 2, .string ⟨#[]⟩, .int .i64 7, .slice none 0 0]] W (MkPost (TV (listT ts (tN 7))) W) :=
              fun W hW => list_tv (tail := tN 7) (HRV.out _ hW) (TV.leaf 2 ⟨#[]⟩ 7 _)
            have Hlist2 := hide hlist2
            clear hlist2
            generalize listT ts (tA nilN) = L at h5 Hl70 Hlok Hr1
            generalize listT ts (tN 7) = L2 at Hlok Hr2 Hlist2
            have hLt : ∀ W, Stay w5 W NoS → TV L v5 W := fun W hW => h5.stay hW
            have HLt := hide hLt
            obtain ⟨A5, c5, ok5, rfl, hc5, hF5⟩ := h5
            rw [show tmV L A5 c5 = .agg #[.int .i64 L.kind, .string L.name, .int .i64 L.int, .slice A5 L.args.length c5] from rfl] at *
            clear hLt hc5 hF5
            cases hrb : rightB L
            all_goals
              first
              | (have htl : textR L = (91 :: (allS ts ++ [93]), 0) := (Hlok.out hrb).1
                 have htl2 : textR L2 = (91 :: (allS ts ++ [124, 55, 93]), 0) := (Hlok.out hrb).2
                 have Htl := hide htl
                 have Htl2 := hide htl2
                 clear htl htl2)
              | (have htl : textR L = ([], 70) := Hl70.out hrb
                 have htl2 : textR L2 = textR L2 := rfl
                 have Htl := hide htl
                 have Htl2 := hide htl2
                 clear htl htl2)
              have Hrb := hide hrb
              clear hrb
              go_wp2_with fail
              refine (text_tv (HLt.out _ ((Stay.refl _ _).alloc _)) (HL.out.stay (Hs5.out.alloc _) (fun _ _ e => e)) Hr1.out).mono ?_
              rintro e w6 ⟨he, s6⟩
              rw [Htl.out] at he
              subst he
              have htb6 := TB.stay (show TB w5.heap.size L.kind L.name L.int (.slice A5 L.args.length c5) _ from heap_alloc_new _ _) s6 (fun e => e)
              have Htb6 := hide htb6
              have Hs6 := hide ((Hs5.out.alloc _).trans s6 (fun _ _ e => e))
              have Hs56 := hide (((Stay.refl w5 NoS).alloc _).trans s6 (fun _ _ e => e))
              clear htb6 s6
              go_wp2_with fail
              refine (n_lit _ _).mono ?_
              rintro e w7 ⟨rfl, s7⟩
              have Hs7 := hide (Hs6.out.trans s7 (fun _ _ e => e))
              have Hs67 := hide s7
              clear s7
              go_wp2_with fail
              refine (Hlist2.out _ Hs7.out).mono ?_
              rintro e w8 ⟨v8, rfl, h8, s8⟩
              have Hs8 := hide (Hs7.out.trans s8 (fun _ _ e => e))
              have Hs68 := hide (Hs67.out.trans s8 (fun _ _ e => e))
              have H8 := hide h8
              obtain ⟨A8, c8, ok8, rfl, hc8, hF8⟩ := h8
              rw [show tmV L2 A8 c8 = .agg #[.int .i64 L2.kind, .string L2.name, .int .i64 L2.int, .slice A8 L2.args.length c8] from rfl] at *
              clear s8 hc8 hF8
              go_wp2_with fail
              refine (text_tv H8.out (HL.out.stay Hs8.out (fun _ _ e => e)) Hr2.out).mono ?_
              rintro e w9 ⟨he, s9⟩
              try rw [Htl2.out] at he
              subst he
              have Hs9 := hide (Hs8.out.trans s9 (fun _ _ e => e))
              have Hs69 := hide (Hs68.out.trans s9 (fun _ _ e => e))
              have htb9 := Htb6.out.stay Hs69.out (fun e => e)
              have q0 : w9.cell? ⟨w5.heap.size, 0, none⟩ = _ := cell_of htb9 0 _ rfl
              have q1 : w9.cell? ⟨w5.heap.size, 1, none⟩ = _ := cell_of htb9 1 _ rfl
              have q2 : w9.cell? ⟨w5.heap.size, 2, none⟩ = _ := cell_of htb9 2 _ rfl
              have q3 : w9.cell? ⟨w5.heap.size, 3, none⟩ = _ := cell_of htb9 3 _ rfl
              clear s9 htb9 H8
              go_wp2_with fail
              refine (right07_tv (HLt.out _ (Hs56.out.trans Hs69.out (fun _ _ e => e)))).mono ?_
              rintro e w10 ⟨he, s10⟩
              rw [Hrb.out] at he
              subst he
              have Hs10 := hide (Hs9.out.trans s10 (fun _ _ e => e))
              clear s10 q0 q1 q2 q3
              go_wp2_with fail
              go_ret
              exact ⟨rfl, Hs10.out⟩
end Go.Proofs.YtgidbplaoijalaaGreatRDoor
