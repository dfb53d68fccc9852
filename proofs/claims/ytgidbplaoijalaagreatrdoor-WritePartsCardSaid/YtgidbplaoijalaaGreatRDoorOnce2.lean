/- The walk of lex.Bare. -/
import Derived.Test.YtgidbplaoijalaaGreatRDoorOnce1
import Derived.Deep.RegionLaw
import Derived.Test.YtgidbplaoijalaaGreatRDoorWNEv
import Derived.Lib.ItoaLen
import Derived.Deep.RegionWith
import Derived.Test.YtgidbplaoijalaaGreatRDoorWFoot
import Derived.Test.YtgidbplaoijalaaGreatRDoorWShare
import Derived.Deep.Slices
import Derived.Lib.SmallJoins

namespace Go.Proofs.YtgidbplaoijalaaGreatRDoor
set_option linter.unusedSimpArgs false
open Go.RowKit Go.Proofs.YtgidbplaoijalaaGreatRDoorW.PrintWords
set_option linter.unusedVariables false

theorem ba_eq (a b : ByteArray) : (a.data.toList == b.data.toList) = decide (a = b) := by
  rw [Bool.eq_iff_iff]
  simp only [beq_iff_eq, decide_eq_true_eq]
  constructor
  · intro h
    have := bs_of a
    rw [h, bs_of b] at this
    exact this.symm
  · intro h; rw [h]

theorem ba_eq2 (a b : ByteArray) : (a.data.toList == b.data.toList) = (a.data == b.data) := by
  rw [Bool.eq_iff_iff]
  simp only [beq_iff_eq]
  constructor
  · intro h; exact Array.toList_inj.1 h
  · intro h; rw [h]

set_option maxHeartbeats 1000000 in
set_option maxRecDepth 100000 in
theorem bare_any (s : ByteArray) (w : World) (hG : RangeVar w) (hM : MaxVar w) (hbg : 9 ≤ w.heap.size) :
    Calls Tryz.prog 106 #[.string s] w fun e w' => e = .returned (.bool (bareS s)) ∧ Stay w w' (fun _ => False) := by
  have ht := tokens_any s w hG hM hbg
  have hR : bareS s = _ := rfl
  conv at hR => rhs; unfold bareS
  generalize bareS s = R at hR ⊢
  generalize tokensS s = T at hR ht
  have HR := hide hR
  clear hR hG hM
  go_enter Tryz.func106, Tryz.ntmps106
  go_wp2_with fail
  refine ht.mono ?_
  intro e w1 h1
  cases T with
  | error er =>
    obtain ⟨c, a⟩ := er
    obtain ⟨ev, rfl, ⟨fb, hN, rfl, hfb⟩, hs⟩ := h1
    go_wp2_with fail
    go_ret
    exact ⟨by rw [HR.out]; rfl, hs⟩
  | ok ts =>
    obtain ⟨v, rfl, hro, hs⟩ := h1
    obtain ⟨A, c, rfl, hc, hC⟩ := Kd.R_reads hro
    have Hs := hide hs
    have HC := hide hC
    clear hs hro hC ht
    match ts with
    | [] =>
      clear HC
      simp only [List.length_nil] at hc ⊢
      go_wp2_with fail
      go_ret
      exact ⟨by rw [HR.out]; rfl, Hs.out⟩
    | [t] =>
      obtain ⟨ad, rfl, c0, c1, c2, c3, c4, c5⟩ := at_TTok HC.out 0 (by omega) (by simp)
      obtain ⟨kd, tx, ti, tp, tq, ta⟩ := t
      clear HC
      simp only [rd_TTok, Int.toNat_zero, List.getD_cons_zero, Nat.zero_mul, List.length_singleton] at c0 c1 c2 c3 c4 c5 hc ⊢
      have hz : ad.add 0 = ad := by cases ad; simp [Addr.add]
      rw [hz] at c0 c1 c2 c3 c4 c5
      go_wp2_with fail
      all_goals
        go_ret
        refine ⟨?_, Hs.out⟩
        rw [HR.out]
        by_cases htx : tx = s
        · subst htx; simp [*]
        · have h1 : (tx.data.toList == s.data.toList) = false := by rw [ba_eq]; simp [htx]
          have h2 : ¬ tx.data = s.data := fun h => htx (by cases tx; cases s; simp at h; rw [h])
          have h3 : ¬ tx.data.toList = s.data.toList := fun h => h2 (Array.toList_inj.1 h)
          rw [h1]
          simp [*]
          all_goals (intro h; apply htx; rw [Lib.toList_data, Lib.toList_data] at h; exact absurd h h3)
    | t :: t' :: r =>
      clear HC
      have hne : ((t :: t' :: r).length == 1) = false := by simp
      have hne2 : ¬ ((t :: t' :: r).length : Int) = 1 := by simp; omega
      generalize (t :: t' :: r).length = ln at hc hne hne2 ⊢
      go_wp2_with fail
      go_ret
      exact ⟨by rw [HR.out]; rfl, Hs.out⟩
end Go.Proofs.YtgidbplaoijalaaGreatRDoor

/- measure of package term: what it computes. -/
namespace Go.Proofs.YtgidbplaoijalaaGreatRDoor
set_option linter.unusedSimpArgs false
set_option linter.unusedVariables false
mutual
/-- depth, ok, size behind -/
def meas : Tm → Int → Int → Int × Bool × Int
  | ⟨k, nm, i, ts⟩, deep, n =>
    if n + 1 > 2000 ∨ deep > 100 then (0, false, n + 1)
    else if k = 1 then (1, decide (i ≥ 1), n + 1)
    else if k = 2 then (1, true, n + 1)
    else if k = 4 then
      if ts.length < 1 ∨ ts.length > 8 then (0, false, n + 1)
      else match measL ts (deep + 1) 0 (n + 1) with
        | (d, true, m) => (d + 1, decide ((nm.size : Int) ≤ 64), m)
        | (_, false, m) => (0, false, m)
    else if k = 3 then (1, decide ((nm.size : Int) ≤ 64), n + 1)
    else (0, false, n + 1)
def measL : List Tm → Int → Int → Int → Int × Bool × Int
  | [], _, d, n => (d, true, n)
  | t :: ts, deep, d, n =>
    match meas t deep n with
    | (e, true, m) => measL ts deep (max d e) m
    | (_, false, m) => (0, false, m)
end
theorem meas_eq (t : Tm) (deep n : Int) : meas t deep n = 
    if n + 1 > 2000 ∨ deep > 100 then (0, false, n + 1)
    else if t.kind = 1 then (1, decide (t.int ≥ 1), n + 1)
    else if t.kind = 2 then (1, true, n + 1)
    else if t.kind = 4 then
      if t.args.length < 1 ∨ t.args.length > 8 then (0, false, n + 1)
      else match measL t.args (deep + 1) 0 (n + 1) with
        | (d, true, m) => (d + 1, decide ((t.name.size : Int) ≤ 64), m)
        | (_, false, m) => (0, false, m)
    else if t.kind = 3 then (1, decide ((t.name.size : Int) ≤ 64), n + 1)
    else (0, false, n + 1) := by
  cases t; simp only [meas]
/-- bounds -/
theorem meas_bound_aux (N : Nat) : (∀ t : Tm, SizeOf.sizeOf t ≤ N → ∀ deep n : Int, 0 ≤ deep → deep ≤ 101 → 0 ≤ n → n ≤ 2000 →
    0 ≤ (meas t deep n).1 ∧ (meas t deep n).1 ≤ 102 - deep ∧ n ≤ (meas t deep n).2.2 ∧ ((meas t deep n).2.1 = true → (meas t deep n).2.2 ≤ 2000) ∧ (meas t deep n).2.2 ≤ 2001) ∧
    (∀ ts : List Tm, SizeOf.sizeOf ts ≤ N → ∀ deep d n : Int, 0 ≤ deep → deep ≤ 101 → 0 ≤ d → d ≤ 102 - deep → 0 ≤ n → n ≤ 2000 →
    0 ≤ (measL ts deep d n).1 ∧ (measL ts deep d n).1 ≤ 102 - deep ∧ n ≤ (measL ts deep d n).2.2 ∧ ((measL ts deep d n).2.1 = true → (measL ts deep d n).2.2 ≤ 2000) ∧ (measL ts deep d n).2.2 ≤ 2001) := by
  induction N with
  | zero =>
    refine ⟨fun t h => ?_, fun ts h => ?_⟩
    · cases t; simp at h
    · cases ts <;> simp at h
  | succ N ih =>
    refine ⟨fun t h deep n h0 h1 h2 h3 => ?_, fun ts h deep d n h0 h1 h2 h3 h4 h5 => ?_⟩
    · have hz : SizeOf.sizeOf t.args ≤ N := by cases t; simp at h ⊢; omega
      rw [meas_eq]
      have q := fun hd hn => ih.2 t.args hz (deep + 1) 0 (n + 1) (by omega) hd (by omega) (by omega) (by omega) hn
      split
      · simp; omega
      · have q := q (by omega) (by omega)
        split
        · simp; omega
        · split
          · simp; omega
          · split
            · split
              · simp; omega
              · generalize measL t.args (deep + 1) 0 (n + 1) = r at q
                obtain ⟨d, b, m⟩ := r
                cases b <;> simp at q ⊢ <;> omega
            · split <;> simp <;> omega
    · cases ts with
      | nil => simp [measL]; omega
      | cons t ts =>
        have hz : SizeOf.sizeOf t ≤ N ∧ SizeOf.sizeOf ts ≤ N := by simp at h; omega
        have q := ih.1 t hz.1 deep n h0 h1 h4 h5
        simp only [measL]
        generalize meas t deep n = r at q
        obtain ⟨e, b, m⟩ := r
        cases b with
        | false => simp at q ⊢; omega
        | true =>
          simp at q
          have q2 := ih.2 ts hz.2 deep (max d e) m h0 h1 (by omega) (by omega) (by omega) (by omega)
          dsimp only
          exact ⟨q2.1, q2.2.1, by have := q2.2.2.1; omega, q2.2.2.2.1, q2.2.2.2.2⟩
theorem meas_bound (t : Tm) (deep n : Int) (h0 : 0 ≤ deep) (h1 : deep ≤ 101) (h2 : 0 ≤ n) (h3 : n ≤ 2000) :
    0 ≤ (meas t deep n).1 ∧ (meas t deep n).1 ≤ 102 - deep ∧ n ≤ (meas t deep n).2.2 ∧ ((meas t deep n).2.1 = true → (meas t deep n).2.2 ≤ 2000) ∧ (meas t deep n).2.2 ≤ 2001 :=
  (meas_bound_aux (SizeOf.sizeOf t)).1 t (Nat.le_refl _) deep n h0 h1 h2 h3
end Go.Proofs.YtgidbplaoijalaaGreatRDoor

/- The walk of term.measure. -/
namespace Go.Proofs.YtgidbplaoijalaaGreatRDoor
set_option linter.unusedSimpArgs false
open Go.RowKit Go.Proofs.YtgidbplaoijalaaGreatRDoorW.PrintWords
set_option linter.unusedVariables false
/-- what measure leaves -/
def MeasPost (b off : Nat) (w : World) (r : Int × Bool × Int) (e : Ending) (w' : World) : Prop :=
  e = .returned (.tuple #[.int .i64 r.1, .bool r.2.1]) ∧ w'.cell? ⟨b, off, none⟩ = some (.int .i64 r.2.2) ∧ w'.frozen? ⟨b, off, none⟩ = false ∧ Stay w w' (fun k => k = b)
theorem MeasPost.mk {b off : Nat} {w w' : World} {r : Int × Bool × Int} {d m : Int} {ok : Bool} (hr : r = (d, ok, m)) (hc : w'.cell? ⟨b, off, none⟩ = some (.int .i64 m)) (hf : w'.frozen? ⟨b, off, none⟩ = false) (hs : Stay w w' (fun k => k = b)) :
  MeasPost b off w r (.returned (.tuple #[.int .i64 d, .bool ok])) w' := by subst hr; exact ⟨rfl, hc, hf, hs⟩

set_option maxHeartbeats 400000 in
theorem measure_leaf (kd : Int) (nm : ByteArray) (i : Int) (ts : List Tm) (deep n : Int) (b off : Nat) (A : Option Addr) (c : Nat) (w : World)
   (hn : w.cell? ⟨b, off, none⟩ = some (.int .i64 n)) (hf : w.frozen? ⟨b, off, none⟩ = false)
   (h0 : 0 ≤ deep) (h1 : deep ≤ 101) (h2 : 0 ≤ n) (h3 : n ≤ 2000) (hk : ¬ (kd = 4 ∧ 1 ≤ ts.length ∧ ts.length ≤ 8 ∧ n + 1 ≤ 2000 ∧ deep ≤ 100)) :
   Calls Tryz.prog 102 #[.agg #[.int .i64 kd, .string nm, .int .i64 i, .slice A ts.length c], .int .i64 deep, .pointer (some ⟨b, off, none⟩)] w
     (MeasPost b off w (meas ⟨kd, nm, i, ts⟩ deep n)) := by
  have hb : b < w.heap.size := World.block_lt_of_cell? w _ hn
  have fin := meas_eq ⟨kd, nm, i, ts⟩ deep n
  dsimp only at fin
  generalize meas ⟨kd, nm, i, ts⟩ deep n = r at fin ⊢
  have Fin := hide fin
  clear fin
  by_cases e0 : n + 1 > 2000
  · go_enter Tryz.func102, Tryz.ntmps102
    go_wp2_with fail
    refine bodyPost_ret (results_tmp2 rfl _ _ _) rfl (MeasPost.mk (by rw [Fin.out, if_pos (.inl e0)]) (by go_simp) (by go_simp) ((Stay.set1 _ _ _ _).alloc _))
  by_cases e9 : deep > 100
  · go_enter Tryz.func102, Tryz.ntmps102
    go_wp2_with fail
    refine bodyPost_ret (results_tmp2 rfl _ _ _) rfl (MeasPost.mk (by rw [Fin.out, if_pos (.inr e9)]) (by go_simp) (by go_simp) ((Stay.set1 _ _ _ _).alloc _))
  have e10 : ¬ (n + 1 > 2000 ∨ deep > 100) := by omega
  rw [if_neg e10] at Fin
  clear e10
  by_cases e1 : kd = 1
  · subst e1
    rw [if_pos rfl] at Fin
    go_enter Tryz.func102, Tryz.ntmps102
    go_wp2_with fail
    go_quiet (fail)
    go_wp2_with fail
    refine bodyPost_ret (results_tmp2 rfl _ _ _) rfl (MeasPost.mk (by rw [Fin.out]) (by go_simp) (by go_simp) (((Stay.set1 _ _ _ _).alloc _).drewN _))
  rw [if_neg e1] at Fin
  by_cases e2 : kd = 2
  · subst e2
    rw [if_pos rfl] at Fin
    go_enter Tryz.func102, Tryz.ntmps102
    go_wp2_with fail
    refine bodyPost_ret (results_tmp2 rfl _ _ _) rfl (MeasPost.mk (by rw [Fin.out]) (by go_simp) (by go_simp) ((Stay.set1 _ _ _ _).alloc _))
  rw [if_neg e2] at Fin
  by_cases e4 : kd = 4
  · subst e4
    have hl : ts.length < 1 ∨ ts.length > 8 := by omega
    rw [if_pos rfl, if_pos hl] at Fin
    rcases hl with hl | hl
    · have hl' : ts.length = 0 := by omega
      rw [hl']
      go_enter Tryz.func102, Tryz.ntmps102
      go_wp2_with fail
      refine bodyPost_ret (results_tmp2 rfl _ _ _) rfl (MeasPost.mk (by rw [Fin.out]) (by go_simp) (by go_simp) ((Stay.set1 _ _ _ _).alloc _))
    · go_enter Tryz.func102, Tryz.ntmps102
      go_wp2_with fail
      refine bodyPost_ret (results_tmp2 rfl _ _ _) rfl (MeasPost.mk (by rw [Fin.out]) (by go_simp) (by go_simp) ((Stay.set1 _ _ _ _).alloc _))
  rw [if_neg e4] at Fin
  by_cases e3 : kd = 3
  · subst e3
    rw [if_pos rfl] at Fin
    go_enter Tryz.func102, Tryz.ntmps102
    go_wp2_with fail
    go_quiet (fail)
    go_wp2_with fail
    refine bodyPost_ret (results_tmp2 rfl _ _ _) rfl (MeasPost.mk (by rw [Fin.out]) (by go_simp) (by go_simp) (((Stay.set1 _ _ _ _).alloc _).drewN _))
  rw [if_neg e3] at Fin
  go_enter Tryz.func102, Tryz.ntmps102
  go_wp2_with fail
  refine bodyPost_ret (results_tmp2 rfl _ _ _) rfl (MeasPost.mk (by rw [Fin.out]) (by go_simp) (by go_simp) ((Stay.set1 _ _ _ _).alloc _))

/-- measure's loop -/
structure MLoop (ts : List Tm) (nm : ByteArray) (deep n : Int) (b off : Nat) (w : World) (d i : Value) (wr : World) : Prop where
  ex : ∃ (k : Nat) (dk nk : Int), k ≤ ts.length ∧ i = .int .i64 k ∧ d = .int .i64 dk ∧ measL ts (deep + 1) 0 (n + 1) = measL (ts.drop k) (deep + 1) dk nk ∧ 0 ≤ dk ∧ dk ≤ 101 - deep ∧ n + 1 ≤ nk ∧ nk ≤ 2000 ∧
    wr.cell? ⟨b, off, none⟩ = some (.int .i64 nk)
  fr : wr.frozen? ⟨b, off, none⟩ = false
  st : Stay w wr (fun k => k = b)
  nmc : wr.cell? ⟨w.heap.size, 1, none⟩ = some (.string nm)
  sz : w.heap.size < wr.heap.size

set_option maxHeartbeats 400000 in
theorem measure_comp {N : Nat} (ih : ∀ (t : Tm), SizeOf.sizeOf t ≤ N → ∀ (deep n : Int) (b off : Nat) (A : Option Addr) (c : Nat) (ok : Nat → Prop) (w : World),
     w.cell? ⟨b, off, none⟩ = some (.int .i64 n) → w.frozen? ⟨b, off, none⟩ = false → 0 ≤ deep → deep ≤ 101 → 0 ≤ n → n ≤ 2000 → 
     Kd.F kTm w ok A t.args.length t.args → ¬ ok b →
     Calls Tryz.prog 102 #[.agg #[.int .i64 t.kind, .string t.name, .int .i64 t.int, .slice A t.args.length c], .int .i64 deep, .pointer (some ⟨b, off, none⟩)] w
      (MeasPost b off w (meas t deep n)))
   (nm : ByteArray) (i : Int) (ts : List Tm) (deep n : Int) (b off : Nat) (A : Option Addr) (c : Nat) (ok : Nat → Prop) (w : World)
   (hN : SizeOf.sizeOf ts ≤ N)
   (hn : w.cell? ⟨b, off, none⟩ = some (.int .i64 n)) (hf : w.frozen? ⟨b, off, none⟩ = false)
   (h0 : 0 ≤ deep) (h1 : deep ≤ 100) (h2 : 0 ≤ n) (h3 : n + 1 ≤ 2000) (hl1 : 1 ≤ ts.length) (hl2 : ts.length ≤ 8)
   (hF : Kd.F kTm w ok A ts.length ts) (hok : ¬ ok b) :
   Calls Tryz.prog 102 #[.agg #[.int .i64 4, .string nm, .int .i64 i, .slice A ts.length c], .int .i64 deep, .pointer (some ⟨b, off, none⟩)] w
     (MeasPost b off w (meas ⟨4, nm, i, ts⟩ deep n)) := by
  have hb : b < w.heap.size := World.block_lt_of_cell? w _ hn
  have fin := meas_eq ⟨4, nm, i, ts⟩ deep n
  dsimp only at fin
  rw [if_neg (by omega), if_neg (by omega), if_neg (by omega), if_pos rfl, if_neg (by omega)] at fin
  generalize meas ⟨4, nm, i, ts⟩ deep n = r at fin ⊢
  have Fin := hide fin
  have HF := hide hF
  have HN := hide hN
  have HI := hide ih
  clear fin hF hN ih
  have q1 : ((ts.length : Int) < 1) = False := by simp; omega
  have q2 : (8 < (ts.length : Int)) = False := by simp; omega
  go_enter Tryz.func102, Tryz.ntmps102
  go_wp2_with fail
  go_loopw [6, 51] (fun d i wr => MLoop ts nm deep n b off w d i wr) (fun _ i _ => ts.length - (intOf i).toNat)
  case atStart =>
    refine ⟨⟨0, 0, n + 1, Nat.zero_le _, rfl, rfl, rfl, by omega, by omega, by omega, by omega, ?_⟩, ?_, ?_, ?_, ?_⟩
    · go_simp
    · go_simp
    · exact (Stay.set1 _ _ _ _).alloc _
    · go_simp
    · go_simp
  case round =>
    obtain ⟨⟨k, dk, nk, hk, rfl, rfl, heq, hd0, hd1, hn0, hn1, hnc⟩, hfr, hst, hnm, hsz⟩ := hrel
    have Heq := hide heq
    have Hst := hide hst
    clear heq hst
    by_cases hlt : k < ts.length
    · obtain ⟨x, hx⟩ : ∃ x, ts[k]? = some x := ⟨_, List.getElem?_eq_getElem hlt⟩
      obtain ⟨ad, A3, c3, rfl, g0, g1, g2, g3, hl3, hF3, hok3⟩ := tm_at (Hst.out.F HF.out (fun b' hb' e => hok (e ▸ hb'))) k x hx
      have HF3 := hide hF3
      have hxz : SizeOf.sizeOf x ≤ N := by
        have := List.sizeOf_lt_of_mem (List.mem_of_getElem? hx)
        have := HN.out
        omega
      have hdr : ts.drop k = x :: ts.drop (k + 1) := by
        rw [List.drop_eq_getElem_cons hlt, ← (List.getElem?_eq_some_iff.1 hx).2]
      have hbx := meas_bound x (deep + 1) nk (by omega) (by omega) (by omega) (by omega)
      rw [hdr, measL] at Heq
      clear hF3 hx hdr
      have hbr : b < wr.heap.size := by omega
      go_wp2_with fail
      refine (HI.out x hxz (deep + 1) nk b off A3 c3 ok _ (by go_simp) (by go_simp) (by omega) (by omega) (by omega) (by omega) (Kd.F_alloc HF3.out _) hok).mono ?_
      generalize meas x (deep + 1) nk = rx at Heq hbx
      obtain ⟨ex, bx, mx⟩ := rx
      rintro e w1 ⟨rfl, hc1, hf1, hs1⟩
      dsimp only at hc1 hbx Heq
      have Hs1 := hide hs1
      have hs2 := hs1.size
      simp at hs2
      have hnm1 : w1.cell? ⟨w.heap.size, 1, none⟩ = some (.string nm) := hs1.cell (by go_simp) (by simp; omega)
      have hst1 : Stay w w1 (fun k => k = b) := (Hst.out.alloc _).trans hs1 (fun _ _ h => h)
      have Hst1 := hide hst1
      clear hs1 hst1
      cases bx with
      | false =>
        go_wp2_with fail
        refine bodyPost_ret (results_tmp2 rfl _ _ _) rfl (MeasPost.mk (by rw [Fin.out, Heq.out]) hc1 hf1 Hst1.out)
      | true =>
        have hm2 := hbx.2.2.2.1 rfl
        go_wp2_with fail
        all_goals
          go_roundw
          case rel => exact ⟨⟨k + 1, max dk ex, mx, by omega, by go_num, (by congr 1 <;> omega), Heq.out, by omega, by omega, by omega, by omega, hc1⟩, hf1, Hst1.out, hnm1, by omega⟩
          case measure => simp [intOf]; omega
    · have hke : k = ts.length := by omega
      subst hke
      rw [List.drop_length, measL] at Heq
      go_wp2_with fail
      go_quiet (fail)
      go_wp2_with fail
      refine bodyPost_ret (results_tmp2 rfl _ _ _) rfl (MeasPost.mk (by rw [Fin.out, Heq.out]) (by go_simp) (by go_simp) (Hst.out.drewN _))

/-- measure, whatever the term. -/
theorem measure_any (N : Nat) : ∀ (t : Tm), SizeOf.sizeOf t ≤ N → ∀ (deep n : Int) (b off : Nat) (A : Option Addr) (c : Nat) (ok : Nat → Prop) (w : World),
     w.cell? ⟨b, off, none⟩ = some (.int .i64 n) → w.frozen? ⟨b, off, none⟩ = false → 0 ≤ deep → deep ≤ 101 → 0 ≤ n → n ≤ 2000 → 
     Kd.F kTm w ok A t.args.length t.args → ¬ ok b →
     Calls Tryz.prog 102 #[.agg #[.int .i64 t.kind, .string t.name, .int .i64 t.int, .slice A t.args.length c], .int .i64 deep, .pointer (some ⟨b, off, none⟩)] w
      (MeasPost b off w (meas t deep n)) := by
  induction N with
  | zero => intro t h; cases t; simp at h
  | succ N ih =>
    intro t hz deep n b off A c ok w hn hf h0 h1 h2 h3 hF hok
    obtain ⟨kd, nm, i, ts⟩ := t
    by_cases h : kd = 4 ∧ 1 ≤ ts.length ∧ ts.length ≤ 8 ∧ n + 1 ≤ 2000 ∧ deep ≤ 100
    · obtain ⟨rfl, h4, h5, h6, h7⟩ := h
      exact measure_comp ih nm i ts deep n b off A c ok w (by simp at hz; omega) hn hf h0 h7 h2 h6 h4 h5 hF hok
    · exact measure_leaf kd nm i ts deep n b off A c w hn hf h0 h1 h2 h3 h
end Go.Proofs.YtgidbplaoijalaaGreatRDoor

/- The walks of term.right, Check; a term as a struct value. -/
namespace Go.Proofs.YtgidbplaoijalaaGreatRDoor
set_option linter.unusedSimpArgs false
open Go.RowKit Go.Proofs.YtgidbplaoijalaaGreatRDoorW.PrintWords
set_option linter.unusedVariables false

def rightB (t : Tm) : Bool := (meas t 1 0).2.1
/-- A term's struct, its arguments' row at A. -/
def tmV (t : Tm) (A : Option Addr) (c : Nat) : Value := .agg #[.int .i64 t.kind, .string t.name, .int .i64 t.int, .slice A t.args.length c]

set_option maxHeartbeats 1000000 in
set_option maxRecDepth 100000 in
theorem right_any (ts : List Tm) (A : Option Addr) (c : Nat) (ok : Nat → Prop) (w : World) (hF : Kd.F kTm w ok A ts.length ts) :
    Calls Tryz.prog 68 #[.slice A ts.length c] w fun e w' => e = .returned (.bool (ts.all rightB)) ∧ Stay w w' (fun _ => False) := by
  have HF := hide (Kd.F_bound hF)
  clear hF
  have hR : ts.all rightB = (ts.drop 0).all rightB := rfl
  generalize ts.all rightB = R at hR ⊢
  have HR := hide hR
  have hmax := Kd.F_max HF.out
  clear hR
  go_enter Tryz.func68, Tryz.ntmps68
  go_wp2_with fail
  go_loopw [10] (fun i wr => ∃ k : Nat, i = .int .i64 k ∧ k ≤ ts.length ∧ R = (ts.drop k).all rightB ∧ Stay w wr (fun _ => False)) (fun i _ => ts.length - (intOf i).toNat)
  case atStart => exact ⟨0, rfl, Nat.zero_le _, HR.out, Stay.refl _ _⟩
  case round =>
    obtain ⟨k, rfl, hk, heq, hst⟩ := hrel
    have Heq := hide heq
    have Hst := hide hst
    clear heq hst HR
    by_cases hlt : k < ts.length
    · obtain ⟨x, hx⟩ : ∃ x, ts[k]? = some x := ⟨_, List.getElem?_eq_getElem hlt⟩
      obtain ⟨ad, A3, c3, rfl, g0, g1, g2, g3, hl3, hF3, hok3⟩ := tm_at (Hst.out.F HF.out (fun _ _ e => e)) k x hx
      have HF3 := hide hF3
      have hdr : ts.drop k = x :: ts.drop (k + 1) := by
        rw [List.drop_eq_getElem_cons hlt, ← (List.getElem?_eq_some_iff.1 hx).2]
      rw [hdr, List.all_cons] at Heq
      have hsz := Hst.out.size
      clear hF3 hx hdr
      go_wp2_with fail
      refine (measure_any (SizeOf.sizeOf x) x (Nat.le_refl _) 1 0 (wr.heap.size + 1) 0 A3 c3 _ _ (by go_simp) (by go_simp) (by omega) (by omega) (by omega) (by omega) (Kd.F_alloc (Kd.F_alloc HF3.out _) _) (fun h => by have := h.2; omega)).mono ?_
      have hrb : rightB x = (meas x 1 0).2.1 := rfl
      generalize meas x 1 0 = rx at hrb
      obtain ⟨ex, bx, mx⟩ := rx
      rintro e w1 ⟨rfl, hc1, hf1, hs1⟩
      dsimp only at hrb
      rw [hrb] at Heq
      have hst1 : Stay w w1 (fun _ => False) := ((Hst.out.alloc _).alloc _).trans hs1 (fun _ h e => by omega)
      have Hst1 := hide hst1
      clear hs1 hst1 hrb hc1 hf1
      cases bx with
      | false =>
        go_wp2_with fail
        go_ret
        exact ⟨by rw [Heq.out]; rfl, Hst1.out⟩
      | true =>
        go_wp2_with fail
        go_roundw
        case rel => exact ⟨k + 1, by go_num, by omega, by rw [Heq.out, Bool.true_and], Hst1.out⟩
        case measure => simp [intOf]; omega
    · have hke : k = ts.length := by omega
      subst hke
      rw [List.drop_length] at Heq
      go_wp2_with fail
      go_ret
      exact ⟨by rw [Heq.out]; rfl, Hst.out⟩

theorem flat_at (m : Nat) (rows : List (List Value)) (h : ∀ c ∈ rows, c.length = m) : ∀ (j : Nat) (c : List Value) (i : Nat) (u : Value), rows[j]? = some c → c[i]? = some u → rows.flatten[j * m + i]? = some u := by
  induction rows with
  | nil => intro j c i u hj; simp at hj
  | cons r rows ih =>
    intro j c i u hj hi
    have hr := h r List.mem_cons_self
    have hil : i < c.length := (List.getElem?_eq_some_iff.1 hi).1
    cases j with
    | zero =>
      simp only [List.getElem?_cons_zero, Option.some.injEq] at hj
      subst hj
      rw [List.flatten_cons, List.getElem?_append_left (by omega), Nat.zero_mul, Nat.zero_add]
      exact hi
    | succ j =>
      rw [List.getElem?_cons_succ] at hj
      rw [List.flatten_cons, List.getElem?_append_right (by rw [hr]; have : m ≤ (j + 1) * m := Nat.le_mul_of_pos_left _ (by omega); omega), hr, show (j + 1) * m + i - m = j * m + i from by rw [Nat.succ_mul]; omega]
      exact ih (fun c hc => h c (List.mem_cons_of_mem _ hc)) j c i u hj hi

/-- A row that fills a block: its elements may share. -/
theorem blk_F {xs : List Tm} {rows : List (List Value)} {g e : Nat} {fr : Nat × Nat} {ok : Nat → Prop} {W : World} (hblk : W.heap[g]? = some (.cells rows.flatten.toArray e fr)) (hl : rows.length = xs.length) (hm : xs.length ≤ 9223372036854775807)
    (hrow : ∀ (j : Nat) (x : Tm) (c : List Value), xs[j]? = some x → rows[j]? = some c → Kd.FK kTm W ok x c) (hg : ok g) : Kd.F kTm W ok (some ⟨g, 0, none⟩) xs.length xs := by
  have hlen : ∀ c ∈ rows, c.length = 4 := by
    intro c hc
    obtain ⟨j, hj⟩ := List.getElem?_of_mem hc
    have hjl : j < xs.length := by have := (List.getElem?_eq_some_iff.1 hj).1; omega
    exact kTm.K_len (Kd.FK_now (hrow j _ c (List.getElem?_eq_getElem hjl) hj))
  intro W' hW
  refine ⟨rfl, hm, fun _ => ⟨⟨g, 0, none⟩, rfl, fun j p hj => ?_⟩⟩
  have hjl : j < rows.length := by have := (List.getElem?_eq_some_iff.1 hj).1; omega
  have hc := List.getElem?_eq_getElem hjl
  have hk := hrow j p _ hj hc
  have hcl := hlen _ (List.mem_of_getElem? hc)
  refine ⟨rows[j], hcl, hk W' hW, fun i u hu => ?_⟩
  have hb : W'.heap[g]? = W.heap[g]? := hW g hg (lt_of hblk)
  have h4 := flat_at 4 rows hlen j _ i u hc hu
  have := cell_of (hb.trans hblk) (j * 4 + i) u h4
  have he : (Addr.mk g 0 none).add (j * kTm.sz + i) = ⟨g, j * 4 + i, none⟩ := by
    rw [show kTm.sz = 4 from rfl]; simp [Addr.add]; omega
  rw [he]
  exact this

/-- A row of one element, in a block of its own. -/
theorem one_F (t : Tm) (A : Option Addr) (c : Nat) (ok : Nat → Prop) (w : World) (hF : Kd.F kTm w ok A t.args.length t.args) (hc : t.args.length ≤ c) :
    Kd.F kTm (w.alloc (.cells #[.int .i64 t.kind, .string t.name, .int .i64 t.int, .slice A t.args.length c] 24)) (fun k => ok k ∨ k = w.heap.size) (some ⟨w.heap.size, 0, none⟩) [t].length [t] := by
  refine blk_F (rows := [[.int .i64 t.kind, .string t.name, .int .i64 t.int, .slice A t.args.length c]]) (heap_alloc_new _ _) rfl (by simp) (fun j x cs hx hcs => ?_) (.inr rfl)
  cases j with
  | zero =>
    simp only [List.getElem?_cons_zero, Option.some.injEq] at hx hcs
    subst hx; subst hcs
    exact kTm_mkF _ _ _ hc (Kd.F_mono (Kd.F_alloc hF _) (fun k hk => .inl hk))
  | succ j => simp at hx

set_option maxHeartbeats 1000000 in
set_option maxRecDepth 100000 in
/-- Check. -/
theorem check_any (t : Tm) (A : Option Addr) (c : Nat) (ok : Nat → Prop) (w : World) (hF : Kd.F kTm w ok A t.args.length t.args) (hc : t.args.length ≤ c) :
    Calls Tryz.prog 38 #[tmV t A c] w fun e w' => e = .returned (.int .i64 (if rightB t = true then 0 else 70)) ∧ Stay w w' (fun _ => False) := by
  have hsz : ∀ o, (w.alloc o).heap.size = w.heap.size + 1 := fun o => by simp
  have hb : [t].all rightB = rightB t := by simp
  have hr : ∀ o, Calls Tryz.prog 68 #[.slice (some ⟨w.heap.size + 1, 0, none⟩) 1 1] ((w.alloc o).alloc (.cells #[.int .i64 t.kind, .string t.name, .int .i64 t.int, .slice A t.args.length c] 24)) fun e w' => e = .returned (.bool (rightB t)) ∧ Stay ((w.alloc o).alloc (.cells #[.int .i64 t.kind, .string t.name, .int .i64 t.int, .slice A t.args.length c] 24)) w' (fun _ => False) := by
    intro o
    have h := right_any [t] (some ⟨(w.alloc o).heap.size, 0, none⟩) 1 _ _ (one_F t A c ok (w.alloc o) (Kd.F_alloc hF o) hc)
    rw [hb, hsz o] at h
    exact h
  clear hb hsz
  generalize rightB t = R at hr
  have HR := hide hr
  obtain ⟨kd, nm, i, ts⟩ := t
  clear hr
  rw [show tmV ⟨kd, nm, i, ts⟩ A c = .agg #[.int .i64 kd, .string nm, .int .i64 i, .slice A ts.length c] from rfl]
  go_enter Tryz.func38, Tryz.ntmps38
  go_wp2_with fail
  refine (HR.out _).mono ?_
  rintro e w1 ⟨rfl, hs⟩
  have Hst : Hid (Stay w w1 (fun _ => False)) := hide ((((Stay.refl _ _).alloc _).alloc _).trans hs (fun _ _ e => e))
  clear hs
  cases R with
  | true =>
    go_wp2_with fail
    go_ret
    exact ⟨rfl, Hst.out⟩
  | false =>
    go_wp2_with fail
    go_ret
    exact ⟨rfl, Hst.out⟩
end Go.Proofs.YtgidbplaoijalaaGreatRDoor

/- The walks of term.bare, put (no map), Items. -/
namespace Go.Proofs.YtgidbplaoijalaaGreatRDoor
set_option linter.unusedSimpArgs false
open Go.RowKit Go.Proofs.YtgidbplaoijalaaGreatRDoorW.PrintWords
set_option linter.unusedVariables false

/-- A term without what its kind does not bear. -/
def head1 (t : Tm) : Tm := if t.kind = 1 ∨ t.kind = 2 then ⟨t.kind, ⟨#[]⟩, t.int, []⟩ else ⟨t.kind, t.name, 0, []⟩

set_option maxHeartbeats 1000000 in
set_option maxRecDepth 100000 in
theorem bare1_any (t : Tm) (A : Option Addr) (c : Nat) (w : World) :
    Calls Tryz.prog 173 #[tmV t A c] w fun e w' => e = .returned (tmV (head1 t) none 0) ∧ Stay w w' (fun _ => False) := by
  obtain ⟨kd, nm, i, ts⟩ := t
  rw [show tmV ⟨kd, nm, i, ts⟩ A c = .agg #[.int .i64 kd, .string nm, .int .i64 i, .slice A ts.length c] from rfl]
  by_cases h1 : kd = 1
  · subst h1
    go_enter Tryz.func173, Tryz.ntmps173
    go_wp2_with fail
    refine bodyPost_ret (results_cell_row (p := 2) (ty := 24) rfl _ _ (w.heap.size + 1) 24 _ (0, 0) _ rfl (alloc2_new w _ _) Tryz.underlying24 rfl (by kernel_rfl)) rfl ?_
    exact ⟨rfl, ((Stay.refl _ _).alloc _).alloc _⟩
  by_cases h2 : kd = 2
  · subst h2
    go_enter Tryz.func173, Tryz.ntmps173
    go_wp2_with fail
    refine bodyPost_ret (results_cell_row (p := 2) (ty := 24) rfl _ _ (w.heap.size + 1) 24 _ (0, 0) _ rfl (alloc2_new w _ _) Tryz.underlying24 rfl (by kernel_rfl)) rfl ?_
    exact ⟨rfl, ((Stay.refl _ _).alloc _).alloc _⟩
  have e1 : (kd == 1) = false := by simp [h1]
  have e2 : (kd == 2) = false := by simp [h2]
  have hh : head1 ⟨kd, nm, i, ts⟩ = ⟨kd, nm, 0, []⟩ := by unfold head1; rw [if_neg (by rintro (h | h); exact h1 h; exact h2 h)]
  rw [hh]
  clear hh
  go_enter Tryz.func173, Tryz.ntmps173
  go_wp2_with fail
  refine bodyPost_ret (results_cell_row (p := 2) (ty := 24) rfl _ _ (w.heap.size + 1) 24 _ (0, 0) _ rfl (alloc2_new w _ _) Tryz.underlying24 rfl (by kernel_rfl)) rfl ?_
  exact ⟨rfl, ((Stay.refl _ _).alloc _).alloc _⟩
mutual
/-- A term without what its parts' kinds do not bear. -/
def clean : Tm → Tm
  | ⟨k, nm, i, ts⟩ => if k = 1 ∨ k = 2 then ⟨k, ⟨#[]⟩, i, []⟩ else if k = 4 then ⟨k, nm, 0, cleanL ts⟩ else ⟨k, nm, 0, []⟩
def cleanL : List Tm → List Tm
  | [] => []
  | t :: ts => clean t :: cleanL ts
end
theorem cleanL_map (ts : List Tm) : cleanL ts = ts.map clean := by
  induction ts with
  | nil => rfl
  | cons t ts ih => simp [cleanL, ih]
theorem clean_eq (t : Tm) : clean t = if t.kind = 4 then ⟨t.kind, t.name, 0, t.args.map clean⟩ else head1 t := by
  obtain ⟨k, nm, i, ts⟩ := t
  rw [clean, cleanL_map]
  unfold head1
  by_cases h : k = 1 ∨ k = 2
  · simp only [h, if_true]
    rw [if_neg (by omega)]
  · simp only [h, if_false]

theorem head1_args (t : Tm) : (head1 t).args = [] := by unfold head1; split <;> rfl
theorem head1_V (t : Tm) : tmV (head1 t) none 0 = .agg #[.int .i64 (head1 t).kind, .string (head1 t).name, .int .i64 (head1 t).int, .slice none 0 0] := by
  unfold tmV
  rw [head1_args]
  rfl
theorem alloc_size (w : World) (o : Obj) : (w.alloc o).heap.size = w.heap.size + 1 := by simp
theorem alloc3_0 (w : World) (a b c : Obj) : (((w.alloc a).alloc b).alloc c).heap[w.heap.size]? = some a := by
  rw [Below.heap_alloc _ _ _ (by simp; omega), Below.heap_alloc _ _ _ (by simp)]
  exact heap_alloc_new w a
theorem alloc3_1 (w : World) (a b c : Obj) : (((w.alloc a).alloc b).alloc c).heap[w.heap.size + 1]? = some b := by
  rw [Below.heap_alloc _ _ _ (by simp)]
  exact alloc2_new w a b
theorem lookup_nil (i : Int) (W : World) : (Instr.lookup 246 (.map none) (.int .i64 i) true).run Tryz.prog W = .ok (.tuple #[.agg #[.int .i64 0, .string ⟨#[]⟩, .int .i64 0, .slice none 0 0], .bool false]) W := by kernel_rfl

/-- A term's struct in a block of its own. -/
def TB (q : Nat) (k : Int) (nm : ByteArray) (i : Int) (v : Value) (w : World) : Prop := w.heap[q]? = some (.cells [.int .i64 k, .string nm, .int .i64 i, v].toArray 24 (0, 0))
theorem TB.stay {q : Nat} {k i : Int} {nm : ByteArray} {v : Value} {w w1 : World} {S : Nat → Prop} (h : TB q k nm i v w) (hs : Stay w w1 S) (hn : ¬ S q) : TB q k nm i v w1 := (hs.block q (lt_of h) hn).trans h
theorem TB.s0 {q : Nat} {k i : Int} {nm : ByteArray} {v : Value} {w : World} (h : TB q k nm i v w) (y : Int) : TB q y nm i v (w.setCell ⟨q, 0, none⟩ (.int .i64 y)) := set_of h 0 _
theorem TB.s1 {q : Nat} {k i : Int} {nm : ByteArray} {v : Value} {w : World} (h : TB q k nm i v w) (y : ByteArray) : TB q k y i v (w.setCell ⟨q, 1, none⟩ (.string y)) := set_of h 1 _
theorem TB.s2 {q : Nat} {k i : Int} {nm : ByteArray} {v : Value} {w : World} (h : TB q k nm i v w) (y : Int) : TB q k nm y v (w.setCell ⟨q, 2, none⟩ (.int .i64 y)) := set_of h 2 _
theorem TB.s3 {q : Nat} {k i : Int} {nm : ByteArray} {v : Value} {w : World} (h : TB q k nm i v w) (y : Value) : TB q k nm i y (w.setCell ⟨q, 3, none⟩ y) := set_of h 3 _
theorem TB.all {q : Nat} {k i : Int} {nm : ByteArray} {v : Value} {w : World} (h : TB q k nm i v w) (k' i' : Int) (nm' : ByteArray) (v' : Value) :
    TB q k' nm' i' v' ((((w.setCell ⟨q, 0, none⟩ (.int .i64 k')).setCell ⟨q, 1, none⟩ (.string nm')).setCell ⟨q, 2, none⟩ (.int .i64 i')).setCell ⟨q, 3, none⟩ v') := (((h.s0 k').s1 nm').s2 i').s3 v'
theorem TB.alloc {q : Nat} {k i : Int} {nm : ByteArray} {v : Value} {w : World} (h : TB q k nm i v w) (o : Obj) : TB q k nm i v (w.alloc o) := (Below.heap_alloc w o q (lt_of h)).trans h
theorem TB.drewN {q : Nat} {k i : Int} {nm : ByteArray} {v : Value} {w : World} (h : TB q k nm i v w) (m : Nat) : TB q k nm i v (w.drewN m) := h
theorem TB.stay_all (q : Nat) (w : World) (k' i' : Int) (nm' : ByteArray) (v' : Value) :
    Stay w ((((w.setCell ⟨q, 0, none⟩ (.int .i64 k')).setCell ⟨q, 1, none⟩ (.string nm')).setCell ⟨q, 2, none⟩ (.int .i64 i')).setCell ⟨q, 3, none⟩ v') (fun k => k = q) :=
  ((((Stay.refl w (fun k => k = q)).setCell _ _ (fun _ => rfl)).setCell _ _ (fun _ => rfl)).setCell _ _ (fun _ => rfl)).setCell _ _ (fun _ => rfl)

/-- What put leaves (no map): the term, clean, in blocks of its own; the symbols counted on. -/
def PutPost (b off : Nat) (w : World) (t : Tm) (m : Int) (e : Ending) (w' : World) : Prop :=
  ∃ A' c', e = .returned (.tuple #[tmV (clean t) A' c', .bool true]) ∧ (clean t).args.length ≤ c' ∧ Kd.F kTm w' (fun k => w.heap.size ≤ k) A' (clean t).args.length (clean t).args ∧
    w'.cell? ⟨b, off, none⟩ = some (.int .i64 m) ∧ w'.frozen? ⟨b, off, none⟩ = false ∧ Stay w w' (fun k => k = b)

set_option maxHeartbeats 1000000 in
set_option maxRecDepth 100000 in
theorem put_leaf (kd : Int) (nm : ByteArray) (i : Int) (ts : List Tm) (deep n : Int) (b off : Nat) (A : Option Addr) (c : Nat) (w : World)
   (hn : w.cell? ⟨b, off, none⟩ = some (.int .i64 n)) (hf : w.frozen? ⟨b, off, none⟩ = false)
   (h0 : 0 ≤ deep) (h1 : deep ≤ 100) (h2 : 0 ≤ n) (h3 : n + 1 ≤ 2000) (hk : (kd == 4) = false) :
   Calls Tryz.prog 145 #[tmV ⟨kd, nm, i, ts⟩ A c, .map none, .int .i64 deep, .pointer (some ⟨b, off, none⟩)] w
     (PutPost b off w ⟨kd, nm, i, ts⟩ (n + 1)) := by
  have hb : b < w.heap.size := World.block_lt_of_cell? w _ hn
  rw [show tmV ⟨kd, nm, i, ts⟩ A c = .agg #[.int .i64 kd, .string nm, .int .i64 i, .slice A ts.length c] from rfl]
  have hlk := lookup_nil
  have hb1 : b < w.heap.size + 1 := by omega
  have hb2 : b < w.heap.size + 1 + 1 := by omega
  have hb3 : b < w.heap.size + 1 + 1 + 1 := by omega
  go_enter Tryz.func145, Tryz.ntmps145
  go_wp2_with fail
  refine (bare1_any ⟨kd, nm, i, ts⟩ A c _).mono ?_
  rintro e w1 ⟨rfl, hs⟩
  have hcl : clean ⟨kd, nm, i, ts⟩ = head1 ⟨kd, nm, i, ts⟩ := by
    rw [clean_eq]
    rw [if_neg (by simpa using hk)]
  rw [head1_V]
  have hV := head1_V ⟨kd, nm, i, ts⟩
  rw [← hcl] at hV ⊢
  have hca : (clean ⟨kd, nm, i, ts⟩).args = [] := by rw [hcl]; exact head1_args _
  generalize hx : clean ⟨kd, nm, i, ts⟩ = x at hV hca ⊢
  obtain ⟨xk, xn, xi, xa⟩ := x
  simp only at hca
  subst hca
  have hws : (w.setCell ⟨b, off, none⟩ (.int .i64 (n + 1))).heap.size = w.heap.size := by simp [World.setCell]
  have hB0 : w1.heap[w.heap.size]? = some (.cells [.int .i64 kd, .string nm, .int .i64 i, .slice A ts.length c].toArray 24 (0, 0)) := (hs.block w.heap.size (by simp; omega) (fun e => e)).trans (by rw [← hws]; exact alloc3_0 _ _ _ _)
  have hB1 : w1.heap[w.heap.size + 1]? = some (.cells [.int .i64 0, .string ⟨#[]⟩, .int .i64 0, .slice none 0 0].toArray 24 (0, 0)) := (hs.block (w.heap.size + 1) (by simp) (fun e => e)).trans (by rw [← hws]; exact alloc3_1 _ _ _ _)
  have hc1 : w1.cell? ⟨b, off, none⟩ = some (.int .i64 (n + 1)) := hs.cell (by go_simp) (fun e => e)
  have hf1 : w1.frozen? ⟨b, off, none⟩ = false := (hs.frozen (by simp; omega) (fun e => e)).trans (by go_simp)
  have hst1 : Stay w w1 (fun k => k = b) := ((((Stay.set1 w b off (.int .i64 (n + 1))).alloc _).alloc _).alloc _).trans hs (fun _ _ e => e.elim)
  have hsz1 := hs.size
  simp at hsz1
  have hs1a : w.heap.size < w1.heap.size := by omega
  have hs1b : w.heap.size + 1 < w1.heap.size := by omega
  have hs1c : b < w1.heap.size := by omega
  have Hx := hide hx
  have HB1 := hide hB1
  have Hst1 := hide hst1
  have a0 : w1.cell? ⟨w.heap.size, 0, none⟩ = _ := cell_of hB0 0 _ rfl
  have r0 : w1.cell? ⟨w.heap.size + 1, 0, none⟩ = _ := cell_of hB1 0 _ rfl
  have r1 : w1.cell? ⟨w.heap.size + 1, 1, none⟩ = _ := cell_of hB1 1 _ rfl
  have r2 : w1.cell? ⟨w.heap.size + 1, 2, none⟩ = _ := cell_of hB1 2 _ rfl
  have r3 : w1.cell? ⟨w.heap.size + 1, 3, none⟩ = _ := cell_of hB1 3 _ rfl
  have fr : ∀ j : Nat, w1.frozen? ⟨w.heap.size + 1, j, none⟩ = false := free_of hB1
  clear hx hB0 hB1 hst1 hs hws hV hcl hn hf
  go_wp2_with fail
  have hw2 := (TB.stay_all (w.heap.size + 1) w1 xk xi xn (.slice none 0 0)).alloc (.cells #[.int .i64 xk, .string xn, .int .i64 xi, .slice none 0 0] 24)
  have hb2' := (TB.all (q := w.heap.size + 1) HB1.out xk xi xn (.slice none 0 0)).alloc (.cells #[.int .i64 xk, .string xn, .int .i64 xi, .slice none 0 0] 24)
  refine bodyPost_ret (results_cell_row_tmp (p := 8) (t := 9) (ty := 24) rfl _ _ (w.heap.size + 1) 24 _ (0, 0) _ rfl hb2' Tryz.underlying24 rfl (by kernel_rfl)) rfl ?_
  refine ⟨none, 0, by rw [Hx.out]; rfl, by rw [Hx.out]; exact Nat.le_refl _, by rw [Hx.out]; exact Kd.F_nil _ _ _, hw2.cell hc1 (by show ¬ b = _; omega), (hw2.frozen hs1c (by show ¬ b = _; omega)).trans hf1, Hst1.out.trans hw2 (fun _ h e => by omega)⟩
theorem Stay.of_grown {w w' : World} {row : Option Nat} (h : w.grownBy w' row) : Stay w w' (fun j => some j = row) := ⟨h.os, h.tape, h.output, h.size, fun k hk hn => h.block k hk hn⟩
/-- put's loop. -/
structure PLoop (ts : List Tm) (nm : ByteArray) (deep n : Int) (b off s1 s3 : Nat) (w : World) (i : Value) (wr : World) : Prop where
  ex : ∃ (k : Nat) (dk nk : Int) (v : Value), k ≤ ts.length ∧ i = .int .i64 k ∧ TB s3 4 nm 0 v wr ∧ Kd.N kTm 24 wr w.heap.size (fun j => s3 < j) v ((ts.take k).map clean) ∧
    measL ts (deep + 1) 0 (n + 1) = measL (ts.drop k) (deep + 1) dk nk ∧ 0 ≤ dk ∧ dk ≤ 101 - deep ∧ n + 1 ≤ nk ∧ nk ≤ 2000 ∧ wr.cell? ⟨b, off, none⟩ = some (.int .i64 nk)
  fr : wr.frozen? ⟨b, off, none⟩ = false
  st : Stay w wr (fun k => k = b)
  res : TB s1 0 ⟨#[]⟩ 0 (.slice none 0 0) wr

set_option maxHeartbeats 2000000 in
set_option maxRecDepth 100000 in
theorem put_comp {N : Nat} (ih : ∀ (t : Tm), SizeOf.sizeOf t ≤ N → ∀ (deep n : Int) (b off : Nat) (A : Option Addr) (c : Nat) (ok : Nat → Prop) (w : World),
     w.cell? ⟨b, off, none⟩ = some (.int .i64 n) → w.frozen? ⟨b, off, none⟩ = false → 0 ≤ deep → deep ≤ 101 → 0 ≤ n → n ≤ 2000 → (meas t deep n).2.1 = true →
     Kd.F kTm w ok A t.args.length t.args → t.args.length ≤ c → ¬ ok b →
     Calls Tryz.prog 145 #[tmV t A c, .map none, .int .i64 deep, .pointer (some ⟨b, off, none⟩)] w (PutPost b off w t (meas t deep n).2.2))
   (nm : ByteArray) (i : Int) (ts : List Tm) (deep n : Int) (b off : Nat) (A : Option Addr) (c : Nat) (ok : Nat → Prop) (w : World)
   (hN : SizeOf.sizeOf ts ≤ N)
   (hn : w.cell? ⟨b, off, none⟩ = some (.int .i64 n)) (hf : w.frozen? ⟨b, off, none⟩ = false)
   (h0 : 0 ≤ deep) (h1 : deep ≤ 100) (h2 : 0 ≤ n) (h3 : n + 1 ≤ 2000) (hl1 : 1 ≤ ts.length) (hl2 : ts.length ≤ 8)
   (hm : (measL ts (deep + 1) 0 (n + 1)).2.1 = true)
   (hF : Kd.F kTm w ok A ts.length ts) (hc : ts.length ≤ c) (hok : ¬ ok b) :
   Calls Tryz.prog 145 #[tmV ⟨4, nm, i, ts⟩ A c, .map none, .int .i64 deep, .pointer (some ⟨b, off, none⟩)] w
     (PutPost b off w ⟨4, nm, i, ts⟩ (measL ts (deep + 1) 0 (n + 1)).2.2) := by
  have hb : b < w.heap.size := World.block_lt_of_cell? w _ hn
  rw [show tmV ⟨4, nm, i, ts⟩ A c = .agg #[.int .i64 4, .string nm, .int .i64 i, .slice A ts.length c] from rfl]
  have hlk := lookup_nil
  have hb1 : b < w.heap.size + 1 := by omega
  have hb2 : b < w.heap.size + 1 + 1 := by omega
  have hb3 : b < w.heap.size + 1 + 1 + 1 := by omega
  have HF := hide (Kd.F_bound hF)
  have HN := hide hN
  have HI := hide ih
  have Hm := hide hm
  clear hF hN ih hm
  go_enter Tryz.func145, Tryz.ntmps145
  go_wp2_with fail
  refine (bare1_any ⟨4, nm, i, ts⟩ A c _).mono ?_
  rintro e w1 ⟨rfl, hs⟩
  rw [show tmV (head1 ⟨4, nm, i, ts⟩) none 0 = .agg #[.int .i64 4, .string nm, .int .i64 0, .slice none 0 0] from rfl]
  have hws : (w.setCell ⟨b, off, none⟩ (.int .i64 (n + 1))).heap.size = w.heap.size := by simp [World.setCell]
  have hB0 : w1.heap[w.heap.size]? = some (.cells [.int .i64 4, .string nm, .int .i64 i, .slice A ts.length c].toArray 24 (0, 0)) := (hs.block w.heap.size (by simp; omega) (fun e => e)).trans (by rw [← hws]; exact alloc3_0 _ _ _ _)
  have hB1 : w1.heap[w.heap.size + 1]? = some (.cells [.int .i64 0, .string ⟨#[]⟩, .int .i64 0, .slice none 0 0].toArray 24 (0, 0)) := (hs.block (w.heap.size + 1) (by simp) (fun e => e)).trans (by rw [← hws]; exact alloc3_1 _ _ _ _)
  have hc1 : w1.cell? ⟨b, off, none⟩ = some (.int .i64 (n + 1)) := hs.cell (by go_simp) (fun e => e)
  have hf1 : w1.frozen? ⟨b, off, none⟩ = false := (hs.frozen (by simp; omega) (fun e => e)).trans (by go_simp)
  have hst1 : Stay w w1 (fun k => k = b) := ((((Stay.set1 w b off (.int .i64 (n + 1))).alloc _).alloc _).alloc _).trans hs (fun _ _ e => e.elim)
  have hsz1 := hs.size
  simp at hsz1
  have hs1a : w.heap.size < w1.heap.size := by omega
  have hs1b : w.heap.size + 1 < w1.heap.size := by omega
  have hs1c : b < w1.heap.size := by omega
  have HB1 := hide hB1
  have Hst1 := hide hst1
  have a0 : w1.cell? ⟨w.heap.size, 0, none⟩ = _ := cell_of hB0 0 _ rfl
  have a3 : w1.cell? ⟨w.heap.size, 3, none⟩ = _ := cell_of hB0 3 _ rfl
  clear hB0 hB1 hst1 hs hws hn hf
  go_wp2_with fail
  go_loopw [54] (fun i wr => PLoop ts nm deep n b off (w.heap.size + 1) w1.heap.size w i wr) (fun i _ => ts.length - (intOf i).toNat)
  case atStart =>
    refine ⟨⟨0, 0, n + 1, _, Nat.zero_le _, rfl, heap_alloc_new _ _, Kd.N_nil _ _ _ _ _, rfl, by omega, by omega, by omega, by omega, ?_⟩, ?_, Hst1.out.alloc _, TB.alloc HB1.out _⟩
    · go_simp
    · go_simp
  case round =>
    obtain ⟨⟨k, dk, nk, v, hk, rfl, htb, hro, heq, hd0, hd1, hn0, hn1, hnc⟩, hfr, hst, hres⟩ := hrel
    have Heq := hide heq
    have Hst := hide hst
    have Htb := hide htb
    have Hro := hide hro
    have Hres := hide hres
    clear heq hst htb hro hres a0 a3 hc1 hf1 HB1 Hst1
    by_cases hlt : k < ts.length
    · obtain ⟨x, hx⟩ : ∃ x, ts[k]? = some x := ⟨_, List.getElem?_eq_getElem hlt⟩
      obtain ⟨ad, A3, c3, rfl, g0, g1, g2, g3, hl3, hF3, hok3⟩ := tm_at (Hst.out.F HF.out (fun b' hb' e => hok (e ▸ hb'.1))) k x hx
      have HF3 := hide hF3
      have hxz : SizeOf.sizeOf x ≤ N := by
        have := List.sizeOf_lt_of_mem (List.mem_of_getElem? hx)
        have := HN.out
        omega
      have hdr : ts.drop k = x :: ts.drop (k + 1) := by
        rw [List.drop_eq_getElem_cons hlt, ← (List.getElem?_eq_some_iff.1 hx).2]
      have htk : ts.take (k + 1) = ts.take k ++ [x] := by
        rw [List.take_add_one, hx]; rfl
      have Htk := hide htk
      have hbx := meas_bound x (deep + 1) nk (by omega) (by omega) (by omega) (by omega)
      rw [hdr, measL] at Heq
      have hal : (ts.take k).length = k := by rw [List.length_take]; omega
      clear hF3 hx hdr htk
      have hbr : b < wr.heap.size := World.block_lt_of_cell? wr _ hnc
      have hbr1 : w1.heap.size < wr.heap.size := lt_of Htb.out
      have hrx : (meas x (deep + 1) nk).2.1 = true := by
        cases hb : (meas x (deep + 1) nk).2.1 with
        | true => rfl
        | false =>
          have hmm := Hm.out
          rw [Heq.out] at hmm
          generalize meas x (deep + 1) nk = rx at hb hmm
          obtain ⟨ex, bx, mx⟩ := rx
          simp only at hb
          subst hb
          simp at hmm
      have Hput := hide (HI.out x hxz (deep + 1) nk b off A3 c3)
      go_wp2_with fail
      refine (Hput.out _ _ (by go_simp) (by go_simp) (by omega) (by omega) (by omega) (by omega) hrx (Kd.F_alloc HF3.out _) hl3 (fun h => by have := h.2; exact hok (h.1))).mono ?_
      rintro e w2 ⟨A', c', rfl, hcl, hF2, hc2, hf2, hs2⟩
      have hHeq : measL ts (deep + 1) 0 (n + 1) = measL (ts.drop (k + 1)) (deep + 1) (max dk (meas x (deep + 1) nk).1) (meas x (deep + 1) nk).2.2 := by
        have hh := Heq.out
        generalize meas x (deep + 1) nk = rx at hrx hh
        obtain ⟨ex, bx, mx⟩ := rx
        simp only at hrx
        subst hrx
        exact hh
      obtain ⟨hb1', hb2', hb3', hb4', _⟩ := hbx
      have hb4 := hb4' hrx
      generalize (meas x (deep + 1) nk).1 = ex at hHeq hb1' hb2'
      generalize (meas x (deep + 1) nk).2.2 = mx at hHeq hb3' hb4 hc2
      have Heq2 := hide hHeq
      have hmapk : (ts.take (k + 1)).map clean = (ts.take k).map clean ++ [clean x] := by rw [Htk.out, List.map_append]; rfl
      have hacl : ((ts.take k).map clean).length = k := by rw [List.length_map]; exact hal
      generalize (ts.take k).map clean = acc at Hro hmapk hacl
      generalize clean x = y at hcl hF2 hmapk ⊢
      obtain ⟨yk, yn, yi, ya⟩ := y
      rw [show tmV ⟨yk, yn, yi, ya⟩ A' c' = .agg #[.int .i64 yk, .string yn, .int .i64 yi, .slice A' ya.length c'] from rfl]
      have hsw : Stay wr w2 (fun k => k = b) := ((Stay.refl _ _).alloc _).trans hs2 (fun _ _ h => h)
      have htb2 := Htb.out.stay hsw (by omega)
      have hres2 := Hres.out.stay hsw (by omega)
      have hro2 := Kd.N_step Hro.out (fun j hj hl => hsw.block j hl (fun e => by omega))
      have hst2 := Hst.out.trans hsw (S := fun k => k = b) (fun _ _ h => h)
      have hvl := Kd.N_lt Hro.out
      have Hvl := hide hvl
      have hsz2 := hs2.size
      simp at hsz2
      have hwr1 := hbr1
      have t3 : w2.cell? ⟨w1.heap.size, 3, none⟩ = some v := cell_of htb2 3 _ rfl
      have tf : ∀ j : Nat, w2.frozen? ⟨w1.heap.size, j, none⟩ = false := free_of htb2
      have hlt2 : w1.heap.size < w2.heap.size := by omega
      have hblt2 : b < w2.heap.size := by omega
      have Hcl := hide hcl
      have HF2 := hide hF2
      have Htb2 := hide htb2
      have Hres2 := hide hres2
      have Hro2 := hide hro2
      have Hst2 := hide hst2
      have Hmapk := hide hmapk
      clear hvl hrx hHeq hcl hF2 htb2 hres2 hro2 hst2 hmapk hsw hs2 Heq Hput Hro Htb Hres Hst g0 g1 g2 g3 hfr hnc HF3 hbr1
      go_wp2_with (at_builtin; (refine Kd.N_append kTm (w0 := w2.alloc _) w.heap.size rfl (.tmp 71) (.tmp 73) 22 24 (.agg #[.int .i64 0, .string ⟨#[]⟩, .int .i64 0, .slice none 0 0]) 56 rfl Tryz.underlying22 (by kernel_rfl) rfl (by decide) (by decide) v acc ⟨yk, yn, yi, ya⟩ _ (fun j => w1.heap.size < j) _ (by rfl) (by rw [alloc_size]; rfl) (kTm_mkF _ _ ⟨yk, yn, yi, ya⟩ Hcl.out (Kd.F_alloc (Kd.F_bound HF2.out) _)) (fun j hj => ⟨by have h1 := hj.1; rw [alloc_size] at h1; omega, fun e => by have h1 := hj.1; have h2 := Hvl.out j e.symm; rw [alloc_size] at h1; omega⟩) (fun j hj => by rw [alloc_size] at hj; omega) (Kd.N_alloc Hro2.out _) (Below.refl _ _) (by rw [alloc_size]; omega) (by omega) ?_; intro v1 w3 hN3 hB3 hg3 hat3; obtain ⟨A1, cc1, rfl⟩ := Kd.N_slice hN3; have k3 := (hg3.cell_far ⟨w1.heap.size, 3, none⟩ (by show w1.heap.size < _; rw [alloc_size]; omega) (fun e => by have := Kd.N_away Hro2.out (g := w1.heap.size) (fun j hj => by omega); exact this e)).trans ((World.cell?_of_block (w := w2) (Below.heap_alloc w2 _ _ hlt2)).trans t3); have kf := (hg3.frozen_far ⟨w1.heap.size, 3, none⟩ (by show w1.heap.size < _; rw [alloc_size]; omega) (fun e => by have := Kd.N_away Hro2.out (g := w1.heap.size) (fun j hj => by omega); exact this e)).trans ((World.frozen?_of_block (w := w2) (Below.heap_alloc w2 _ _ hlt2)).trans (tf 3))))
      have hst3 := (Stay.refl w2 (fun j => some j = v.ownBlock)).alloc (.cells #[.int .i64 yk, .string yn, .int .i64 yi, .slice A' ya.length c'] 24) |>.trans (Stay.of_grown hg3) (fun _ _ h => h)
      have hno : ∀ j, j ≤ w1.heap.size → ¬ some j = v.ownBlock := fun j hj e => by have := Hro2.out.1 j e.symm; omega
      have hc3 := hst3.cell hc2 (hno b (by omega))
      have hf3 := (hst3.frozen (a := ⟨b, off, none⟩) hblt2 (hno b (by omega))).trans hf2
      have htb3 := (Htb2.out.stay hst3 (hno _ (Nat.le_refl _))).s3 (.slice A1 (k + 1) cc1)
      have hres3 := (Hres2.out.stay hst3 (hno _ (by omega))).stay (Stay.set1 w3 w1.heap.size 3 (.slice A1 (k + 1) cc1)) (by omega)
      have hlen3 : (acc ++ [(⟨yk, yn, yi, ya⟩ : Tm)]).length = k + 1 := by rw [List.length_append, hacl]; rfl
      rw [hlen3] at hN3
      have hN4 := Kd.N_step hN3 (w1 := w3.setCell ⟨w1.heap.size, 3, none⟩ (.slice A1 (k + 1) cc1)) (fun j hj _ => Below.heap_setCell w3 _ _ j (by show j ≠ w1.heap.size; omega))
      have hs34 := Stay.set1 w3 w1.heap.size 3 (.slice A1 (k + 1) cc1)
      have hfin : Stay w (w3.setCell ⟨w1.heap.size, 3, none⟩ (.slice A1 (k + 1) cc1)) (fun j => j = b) := (Hst2.out.trans hst3 (fun j hj e => absurd e (hno j (by omega)))).trans hs34 (fun j hj e => by omega)
      rw [← Hmapk.out] at hN4
      go_roundw
      case rel => exact ⟨⟨k + 1, max dk ex, mx, _, by omega, by go_num, htb3, hN4, Heq2.out, by omega, by omega, by omega, by omega, hs34.cell hc3 (by show ¬ b = _; omega)⟩, (hs34.frozen (World.block_lt_of_cell? w3 _ hc3) (by show ¬ b = _; omega)).trans hf3, hfin, hres3⟩
      case measure => simp [intOf]; omega
    · have hke : k = ts.length := by omega
      subst hke
      rw [List.drop_length, measL] at Heq
      have htk : ts.take ts.length = ts := List.take_length
      have Htk := hide htk
      obtain ⟨A1, cc1, rfl⟩ := Kd.N_slice Hro.out
      have hlen : ((ts.take ts.length).map clean).length = ts.length := by rw [List.length_map, htk]
      have Hlen := hide hlen
      have r0 : wr.cell? ⟨w.heap.size + 1, 0, none⟩ = _ := cell_of Hres.out 0 _ rfl
      have r1 : wr.cell? ⟨w.heap.size + 1, 1, none⟩ = _ := cell_of Hres.out 1 _ rfl
      have r2 : wr.cell? ⟨w.heap.size + 1, 2, none⟩ = _ := cell_of Hres.out 2 _ rfl
      have r3 : wr.cell? ⟨w.heap.size + 1, 3, none⟩ = _ := cell_of Hres.out 3 _ rfl
      have fr : ∀ j : Nat, wr.frozen? ⟨w.heap.size + 1, j, none⟩ = false := free_of Hres.out
      have q0 : wr.cell? ⟨w1.heap.size, 0, none⟩ = _ := cell_of Htb.out 0 _ rfl
      have q1 : wr.cell? ⟨w1.heap.size, 1, none⟩ = _ := cell_of Htb.out 1 _ rfl
      have q2 : wr.cell? ⟨w1.heap.size, 2, none⟩ = _ := cell_of Htb.out 2 _ rfl
      have q3 : wr.cell? ⟨w1.heap.size, 3, none⟩ = _ := cell_of Htb.out 3 _ rfl
      have hbr : b < wr.heap.size := World.block_lt_of_cell? wr _ hnc
      rw [hlen] at q3
      have hro := Hro.out
      rw [hlen, htk] at hro
      have hrd := (Kd.N_reads' hro).2.1
      have hNF := Kd.N_F hro
      have HNF := hide hNF
      clear htk hlen hro hNF
      go_wp2_with fail
      have hcl : clean ⟨4, nm, i, ts⟩ = ⟨4, nm, 0, ts.map clean⟩ := by rw [clean_eq, if_pos rfl]
      have hw2 := TB.stay_all (w.heap.size + 1) wr 4 0 nm (.slice A1 ts.length cc1)
      have hb2' := TB.all (q := w.heap.size + 1) Hres.out 4 0 nm (.slice A1 ts.length cc1)
      refine bodyPost_ret (results_cell_row_tmp (p := 8) (t := 9) (ty := 24) rfl _ _ (w.heap.size + 1) 24 _ (0, 0) _ rfl hb2' Tryz.underlying24 rfl (by kernel_rfl)) rfl ?_
      unfold PutPost
      rw [hcl, Heq.out]
      refine ⟨A1, cc1, ?_, by rw [List.length_map]; exact hrd, ?_, hw2.cell hnc (by show ¬ b = _; omega), (hw2.frozen (a := ⟨b, off, none⟩) hbr (by show ¬ b = _; omega)).trans hfr, Hst.out.trans hw2 (fun _ h e => by omega)⟩
      · show Ending.returned (.tuple #[.agg #[.int .i64 4, .string nm, .int .i64 0, .slice A1 ts.length cc1], .bool true]) = Ending.returned (.tuple #[.agg #[.int .i64 4, .string nm, .int .i64 0, .slice A1 (ts.map clean).length cc1], .bool true])
        rw [List.length_map]
      · have hz := Kd.F_step HNF.out (W1 := _) (fun j hj hl => hw2.block j hl (by omega))
        show Kd.F kTm _ _ A1 (ts.map clean).length (ts.map clean)
        rw [List.length_map]
        exact Kd.F_mono hz (fun j hj => by omega)

theorem put_any (N : Nat) : ∀ (t : Tm), SizeOf.sizeOf t ≤ N → ∀ (deep n : Int) (b off : Nat) (A : Option Addr) (c : Nat) (ok : Nat → Prop) (w : World),
     w.cell? ⟨b, off, none⟩ = some (.int .i64 n) → w.frozen? ⟨b, off, none⟩ = false → 0 ≤ deep → deep ≤ 101 → 0 ≤ n → n ≤ 2000 → (meas t deep n).2.1 = true →
     Kd.F kTm w ok A t.args.length t.args → t.args.length ≤ c → ¬ ok b →
     Calls Tryz.prog 145 #[tmV t A c, .map none, .int .i64 deep, .pointer (some ⟨b, off, none⟩)] w (PutPost b off w t (meas t deep n).2.2) := by
  induction N with
  | zero => intro t h; cases t; simp at h
  | succ N ih =>
    intro t hz deep n b off A c ok w hn hf h0 h1 h2 h3 hm hF hc hok
    obtain ⟨kd, nm, i, ts⟩ := t
    have heq := meas_eq ⟨kd, nm, i, ts⟩ deep n
    dsimp only at heq
    by_cases hb : n + 1 > 2000 ∨ deep > 100
    · rw [if_pos hb] at heq
      rw [heq] at hm
      cases hm
    rw [if_neg hb] at heq
    by_cases h4 : kd = 4
    · subst h4
      rw [if_neg (by decide), if_neg (by decide), if_pos rfl] at heq
      by_cases hl : ts.length < 1 ∨ ts.length > 8
      · rw [if_pos hl] at heq
        rw [heq] at hm
        cases hm
      rw [if_neg hl] at heq
      have hp := put_comp ih nm i ts deep n b off A c ok w (by simp at hz; omega) hn hf h0 (by omega) h2 (by omega) (by omega) (by omega)
      generalize measL ts (deep + 1) 0 (n + 1) = r at heq hp
      obtain ⟨d, bb, m⟩ := r
      cases bb with
      | false => rw [heq] at hm; cases hm
      | true =>
        rw [heq]
        exact hp rfl hF hc hok
    · have hk : (kd == 4) = false := by simp [h4]
      have hr := put_leaf kd nm i ts deep n b off A c w hn hf h0 (by omega) h2 (by omega) hk
      rw [if_neg h4] at heq
      have hsz : (meas ⟨kd, nm, i, ts⟩ deep n).2.2 = n + 1 := by
        rw [heq]
        split
        · rfl
        · split
          · rfl
          · split <;> rfl
      rw [hsz]
      exact hr
end Go.Proofs.YtgidbplaoijalaaGreatRDoor

/- The walk of term.Items. -/
namespace Go.Proofs.YtgidbplaoijalaaGreatRDoor
set_option linter.unusedSimpArgs false
open Go.RowKit Go.Proofs.YtgidbplaoijalaaGreatRDoorW.PrintWords
set_option linter.unusedVariables false

/-- Is it a pair of a list? -/
def pairB (t : Tm) : Bool := t.kind == 4 && t.name == (⟨#[46]⟩ : ByteArray) && t.args.length == 2
/-- A list's items and its end. -/
def items : Tm → List Tm × Tm
  | ⟨k, nm, i, [a, b]⟩ => if k = 4 ∧ nm = (⟨#[46]⟩ : ByteArray) then (a :: (items b).1, (items b).2) else ([], ⟨k, nm, i, [a, b]⟩)
  | ⟨k, nm, i, []⟩ => ([], ⟨k, nm, i, []⟩)
  | ⟨k, nm, i, [a]⟩ => ([], ⟨k, nm, i, [a]⟩)
  | ⟨k, nm, i, a :: b :: c :: r⟩ => ([], ⟨k, nm, i, a :: b :: c :: r⟩)
termination_by t => SizeOf.sizeOf t
theorem items_pair (k : Int) (nm : ByteArray) (i : Int) (a b : Tm) (h : k = 4 ∧ nm = (⟨#[46]⟩ : ByteArray)) : items ⟨k, nm, i, [a, b]⟩ = (a :: (items b).1, (items b).2) := by
  rw [items, if_pos h]
theorem items_end (t : Tm) (h : ¬ (t.kind = 4 ∧ t.name = (⟨#[46]⟩ : ByteArray) ∧ t.args.length = 2)) : items t = ([], t) := by
  obtain ⟨k, nm, i, ts⟩ := t
  match ts with
  | [] => rw [items]
  | [a] => rw [items]
  | [a, b] => rw [items, if_neg (fun hh => h ⟨hh.1, hh.2, rfl⟩)]
  | a :: b :: c :: r => rw [items]

theorem results_tmp_cell_row {P : Program} {fn : Func} {p t : Tmp} {ty : TypeId} (h : fn.results = #[.tmp t, .cell p ty]) (tmps : Array Value) (w : World) (g : Nat) (tt : TypeId) (cs : Array Value) (fr : Nat × Nat) (d : TypeDesc)
    (hp : tmps.getD p undef = .pointer (some ⟨g, 0, none⟩)) (hg : w.heap[g]? = some (.cells cs tt fr))
    (hu : P.underlying ty = some d) (hd : (match d with | .struct _ | .array _ _ => true | _ => false) = true) (hi : (P.info? ty).map (·.size) = some cs.size) :
    (results fn tmps).run P w = .ok (.tuple #[tmps.getD t undef, .agg cs]) w := by
  have hp' : tmps[p]?.getD undef = .pointer (some ⟨g, 0, none⟩) := by simpa using hp
  simp [results, h, hp', asAddr, run_loadVar_row w g tt ty cs fr d hg hu hd hi]

theorem TB.drew {q : Nat} {k i : Int} {nm : ByteArray} {v : Value} {w : World} (h : TB q k nm i v w) : TB q k nm i v w.drew := h
theorem len2 {n : Nat} (h : ((n : Int) == 2) = true) : n = 2 := by
  have := beq_iff_eq.1 h
  omega
theorem dot_of {s : ByteArray} (h : s.toList = [46]) : s = (⟨#[46]⟩ : ByteArray) := by
  rw [Lib.toList_data] at h
  rw [← bs_of s, h]; rfl

/-- What Items leaves. -/
def ItemsPost (w : World) (r : List Tm × Tm) (e : Ending) (w' : World) : Prop :=
  ∃ A1 c1 A2 c2, e = .returned (.tuple #[.slice A1 r.1.length c1, tmV r.2 A2 c2]) ∧ r.1.length ≤ c1 ∧ r.2.args.length ≤ c2 ∧
    Kd.F kTm w' (fun k => w.heap.size ≤ k) A1 r.1.length r.1 ∧ Kd.F kTm w' (fun k => w.heap.size ≤ k) A2 r.2.args.length r.2.args ∧ Stay w w' (fun _ => False)

/-- Items' loop. -/
structure ILoop (L0 s0 s3 : Nat) (R : List Tm × Tm) (w : World) (gk : Nat) (out : Value) (wr : World) : Prop where
  ex : ∃ (acc : List Tm) (cur : Tm) (A : Option Addr) (c : Nat), SizeOf.sizeOf cur ≤ gk ∧ R = (acc ++ (items cur).1, (items cur).2) ∧ TB s0 cur.kind cur.name cur.int (.slice A cur.args.length c) wr ∧ cur.args.length ≤ c ∧
    Kd.F kTm wr (fun j => s3 < j ∧ j < L0) A cur.args.length cur.args ∧ Kd.N kTm 24 wr L0 (fun j => s3 < j) out acc
  res : TB s3 0 ⟨#[]⟩ 0 (.slice none 0 0) wr
  lo : L0 ≤ wr.heap.size
  st : Stay w wr (fun _ => False)

theorem items_len (N : Nat) : ∀ t : Tm, SizeOf.sizeOf t ≤ N → ∀ deep n : Int, (meas t deep n).2.1 = true → ((items (clean t)).1.length : Int) + deep ≤ 100 := by
  induction N with
  | zero => intro t h; cases t; simp at h
  | succ N ih =>
    intro t hz deep n hm
    rw [meas_eq] at hm
    by_cases hb : n + 1 > 2000 ∨ deep > 100
    · rw [if_pos hb] at hm; cases hm
    rw [if_neg hb] at hm
    by_cases hp : (clean t).kind = 4 ∧ (clean t).name = (⟨#[46]⟩ : ByteArray) ∧ (clean t).args.length = 2
    · obtain ⟨k, nm, i, ts⟩ := t
      have hk : k = 4 := by
        have h := hp.1
        rw [clean_eq] at h
        by_cases h4 : k = 4
        · exact h4
        · exfalso
          rw [if_neg h4] at h
          unfold head1 at h
          split at h <;> exact h4 h
      subst hk
      have hcl : clean ⟨4, nm, i, ts⟩ = ⟨4, nm, 0, ts.map clean⟩ := by rw [clean_eq, if_pos rfl]
      rw [hcl] at hp ⊢
      obtain ⟨_, hnm, hlen⟩ := hp
      simp only [List.length_map] at hlen
      match ts, hlen with
      | [a, b], _ =>
        rw [List.map_cons, List.map_cons, List.map_nil, items_pair _ _ _ _ _ ⟨rfl, hnm⟩]
        simp only [List.length_cons]
        rw [if_neg (by show ¬ (4 : Int) = 1; decide), if_neg (by show ¬ (4 : Int) = 2; decide), if_pos rfl, if_neg (by simp)] at hm
        have hba : ∃ m, (meas b (deep + 1) m).2.1 = true := by
          simp only [measL] at hm
          generalize meas a (deep + 1) (n + 1) = ra at hm
          obtain ⟨ea, ba, ma⟩ := ra
          cases ba with
          | false => cases hm
          | true =>
            simp only at hm
            refine ⟨ma, ?_⟩
            generalize meas b (deep + 1) ma = rb at hm ⊢
            obtain ⟨eb, bb, mb⟩ := rb
            cases bb with
            | false => cases hm
            | true => rfl
        obtain ⟨m, hmb⟩ := hba
        have := ih b (by simp at hz; omega) (deep + 1) m hmb
        omega
    · rw [items_end _ hp]
      simp
      omega

set_option maxHeartbeats 2000000 in
set_option maxRecDepth 100000 in
theorem items_any (t : Tm) (A : Option Addr) (c : Nat) (ok : Nat → Prop) (w : World) (hr : rightB t = true) (hF : Kd.F kTm w ok A t.args.length t.args) (hc : t.args.length ≤ c) :
    Calls Tryz.prog 105 #[tmV t A c] w (ItemsPost w (items (clean t))) := by
  have hri := fun o1 o2 => right_any [t] (some ⟨w.heap.size + 1 + 1, 0, none⟩) 1 _ ((w.alloc o1).alloc o2 |>.alloc (.cells #[.int .i64 t.kind, .string t.name, .int .i64 t.int, .slice A t.args.length c] 24)) (by
    have h := one_F t A c ok ((w.alloc o1).alloc o2) (Kd.F_alloc (Kd.F_alloc hF o1) o2) hc
    rw [alloc_size, alloc_size] at h
    exact h)
  have hb : [t].all rightB = true := by simp [hr]
  rw [hb] at hri
  have Hri := hide hri
  have Hr := hide hr
  have HF := hide (Kd.F_bound hF)
  clear hri hr hF hb
  have hput := put_any (SizeOf.sizeOf t) t (Nat.le_refl _) 1 0
  have Hput := hide hput
  clear hput
  have hil := items_len (SizeOf.sizeOf t) t (Nat.le_refl _) 1 0 Hr.out
  generalize hRR : items (clean t) = R at hil ⊢
  have HRR := hide hRR
  clear hRR
  obtain ⟨kd, nm, i, ts⟩ := t
  rw [show tmV ⟨kd, nm, i, ts⟩ A c = .agg #[.int .i64 kd, .string nm, .int .i64 i, .slice A ts.length c] from rfl]
  go_enter Tryz.func105, Tryz.ntmps105
  go_wp2_with fail
  refine (Hri.out _ _).mono ?_
  rintro e w1 ⟨rfl, hs⟩
  have hB0 : TB w.heap.size kd nm i (.slice A ts.length c) w1 := (hs.block w.heap.size (by simp; omega) (fun e => e)).trans (alloc3_0 _ _ _ _)
  have hB1 : TB (w.heap.size + 1) 0 ⟨#[]⟩ 0 (.slice none 0 0) w1 := (hs.block (w.heap.size + 1) (by simp) (fun e => e)).trans (alloc3_1 _ _ _ _)
  have hst1 : Stay w w1 (fun _ => False) := ((((Stay.refl _ _).alloc _).alloc _).alloc _).trans hs (fun _ _ e => e.elim)
  have hsz1 := hs.size
  simp at hsz1
  have hs1a : w.heap.size < w1.heap.size := by omega
  have hs1b : w.heap.size + 1 < w1.heap.size := by omega
  have a0 : w1.cell? ⟨w.heap.size, 0, none⟩ = _ := cell_of hB0 0 _ rfl
  have a1 : w1.cell? ⟨w.heap.size, 1, none⟩ = _ := cell_of hB0 1 _ rfl
  have a2 : w1.cell? ⟨w.heap.size, 2, none⟩ = _ := cell_of hB0 2 _ rfl
  have a3 : w1.cell? ⟨w.heap.size, 3, none⟩ = _ := cell_of hB0 3 _ rfl
  have HB0 := hide hB0
  have HB1 := hide hB1
  have Hst1 := hide hst1
  clear hs hB0 hB1 hst1
  go_wp2_with fail
  refine (Hput.out w1.heap.size 0 A c _ _ (by go_simp) (by go_simp) (by decide) (by decide) (by decide) (by decide) Hr.out (Kd.F_alloc (Hst1.out.F HF.out (fun _ _ e => e)) _) hc (fun h => by have := h.2; omega)).mono ?_
  rintro e w2 ⟨A', c', rfl, hcl, hF2, hc2, hf2, hs2⟩
  generalize clean ⟨kd, nm, i, ts⟩ = y at hcl hF2 HRR ⊢
  have hsw : Stay w1 w2 (fun k => k = w1.heap.size) := ((Stay.refl _ _).alloc _).trans hs2 (fun _ _ h => h)
  have hB0 := HB0.out.stay hsw (by omega)
  have hB1 := HB1.out.stay hsw (by omega)
  have hst2 : Stay w w2 (fun _ => False) := Hst1.out.trans hsw (fun _ h e => by omega)
  have hsz2 := hs2.size
  simp at hsz2
  have hs2a : w.heap.size < w2.heap.size := by omega
  have hs2b : w.heap.size + 1 < w2.heap.size := by omega
  clear a0 a1 a2 a3
  have a0 : w2.cell? ⟨w.heap.size, 0, none⟩ = _ := cell_of hB0 0 _ rfl
  have a1 : w2.cell? ⟨w.heap.size, 1, none⟩ = _ := cell_of hB0 1 _ rfl
  have a2 : w2.cell? ⟨w.heap.size, 2, none⟩ = _ := cell_of hB0 2 _ rfl
  have a3 : w2.cell? ⟨w.heap.size, 3, none⟩ = _ := cell_of hB0 3 _ rfl
  have fr : ∀ j : Nat, w2.frozen? ⟨w.heap.size, j, none⟩ = false := free_of hB0
  rw [show tmV y A' c' = .agg #[.int .i64 y.kind, .string y.name, .int .i64 y.int, .slice A' y.args.length c'] from rfl]
  have HB0' := hide hB0
  have HB1' := hide hB1
  have Hst2 := hide hst2
  have HF2 := hide hF2
  have Hcl := hide hcl
  rw [alloc_size] at HF2
  clear hs2 hsw hB0 hB1 hst2 hF2 hcl hc2 hf2 HB0 HB1 Hst1
  go_wp2_with fail
  go_loopg [5] (SizeOf.sizeOf y) (fun gk out wr => ILoop w2.heap.size w.heap.size (w.heap.size + 1) R w gk out wr)
  case atStart =>
    have hw := TB.stay_all w.heap.size w2 y.kind y.int y.name (.slice A' y.args.length c')
    refine ⟨⟨[], y, A', c', Nat.le_refl _, ?_, TB.all HB0'.out _ _ _ _, Hcl.out, ?_, Kd.N_nil _ _ _ _ _⟩, HB1'.out.stay hw (by omega), hw.size, Hst2.out.trans hw (fun _ h e => by omega)⟩
    · rw [HRR.out]; rfl
    · exact Kd.F_mono (Kd.F_step (Kd.F_bound HF2.out) (fun j hj hl => hw.block j hl (by omega))) (fun j hj => ⟨by omega, hj.2⟩)
  case round =>
    obtain ⟨⟨acc, cur, Ac, cc, hgk, hRc, htb, hcc, hFc, hro⟩, hres, hlo, hst⟩ := hrel
    have hq0 : wr.cell? ⟨w.heap.size, 0, none⟩ = _ := cell_of htb 0 _ rfl
    have hq1 : wr.cell? ⟨w.heap.size, 1, none⟩ = _ := cell_of htb 1 _ rfl
    have hq2 : wr.cell? ⟨w.heap.size, 2, none⟩ = _ := cell_of htb 2 _ rfl
    have hq3 : wr.cell? ⟨w.heap.size, 3, none⟩ = _ := cell_of htb 3 _ rfl
    have HRc := hide hRc
    have Htb := hide htb
    have HFc := hide hFc
    have Hro := hide hro
    have Hres := hide hres
    have Hst := hide hst
    have Hgk := hide hgk
    clear hRc htb hFc hro hres hst hgk a0 a1 a2 a3 fr HB0' HB1' Hst2 HF2 Hcl HRR Hri Hr HF Hput
    by_cases hp : cur.kind = 4 ∧ cur.name = (⟨#[46]⟩ : ByteArray) ∧ cur.args.length = 2
    · obtain ⟨ck, cn, ci, ca⟩ := cur
      obtain ⟨hk4, hdot, hlen⟩ := hp
      simp only at hk4 hdot hlen
      subst hk4
      subst hdot
      match ca, hlen with
      | [xa, xb], _ =>
        obtain ⟨ad, Aa, ca', rfl, g0, g1, g2, g3, hla, hFa, hoka⟩ := tm_at HFc.out 0 xa rfl
        obtain ⟨ad', Ab, cb', he, m0, m1, m2, m3, hlb, hFb, hokb⟩ := tm_at HFc.out 1 xb rfl
        injection he with he
        subst he
        rw [items_pair _ _ _ _ _ ⟨rfl, rfl⟩] at HRc
        have HFa := hide hFa
        have HFb := hide hFb
        clear hFa hFb
        simp only [List.length_cons, List.length_nil] at hq3 hcc
        have hs0l : w.heap.size < wr.heap.size := by omega
        obtain ⟨Av, cv, rfl⟩ := Kd.N_slice Hro.out
        have hz : ad.add 0 = ad := by cases ad; simp [Addr.add]
        simp only [Nat.zero_mul, Nat.one_mul, hz] at g0 g1 g2 g3 m0 m1 m2 m3
        have h4 : ad.add 4 = ⟨ad.block, ad.off + 4, none⟩ := by simp [Addr.add]
        rw [h4] at m0 m1 m2 m3
        clear h4
        have hacl : acc.length ≤ 100 := by
          have := HRc.out
          have h2 := congrArg (fun r : List Tm × Tm => r.1.length) this
          simp only [List.length_append, List.length_cons] at h2
          omega
        go_wp2_with (at_builtin; go_loud ((refine Kd.N_append kTm (w0 := wr) w2.heap.size rfl (.tmp 30) (.tmp 35) 22 24 (.agg #[.int .i64 0, .string ⟨#[]⟩, .int .i64 0, .slice none 0 0]) 56 rfl Tryz.underlying22 (by kernel_rfl) rfl (by decide) (by decide) _ acc xa _ (fun j => w.heap.size + 1 < j) _ (by rfl) (by rfl) (kTm_mkF _ _ xa hla HFa.out) (fun j hj => ⟨hj.1, fun e => by have h1 := Kd.N_base Hro.out j e.symm; have h2 := hj.2; omega⟩) (fun j hj => by omega) Hro.out (Below.refl _ _) hlo (by omega) ?_; intro v1 w3 hN3 hB3 hg3 hat3; obtain ⟨A1, cc1, rfl⟩ := Kd.N_slice hN3; have hfar : ∀ (a : Addr) (u : Value), a.block < w2.heap.size → wr.cell? a = some u → w3.cell? a = some u := (fun a u hl hu => (hg3.cell_far a (Nat.lt_of_lt_of_le hl hlo) (fun e => by have := Kd.N_base Hro.out _ e.symm; omega)).trans hu); have k0 := hfar _ _ hs2a hq0; have k1 := hfar _ _ hs2a hq1; have k2 := hfar _ _ hs2a hq2; have k3 := hfar _ _ hs2a hq3; have l0 := hfar ⟨ad.block, ad.off + 4, none⟩ _ hokb.2 m0; have l1 := hfar ⟨ad.block, ad.off + 4 + 1, none⟩ _ hokb.2 m1; have l2 := hfar ⟨ad.block, ad.off + 4 + 2, none⟩ _ hokb.2 m2; have l3 := hfar ⟨ad.block, ad.off + 4 + 3, none⟩ _ hokb.2 m3; have kf : ∀ j : Nat, w3.frozen? ⟨w.heap.size, j, none⟩ = false := (fun j => (hg3.frozen_far ⟨w.heap.size, j, none⟩ hs0l (fun e => by have h9 : w2.heap.size ≤ w.heap.size := Kd.N_base Hro.out _ e.symm; omega)).trans (free_of Htb.out j)); clear hfar)))
        have hlen1 : (acc ++ [xa]).length = acc.length + 1 := by simp
        rw [hlen1] at hN3
        have hst3 := Stay.of_grown hg3
        have hno : ∀ j, j < w2.heap.size → ¬ some j = (Value.slice Av acc.length cv).ownBlock := fun j hj e => by have := Kd.N_base Hro.out j e.symm; omega
        have htb3 := TB.all (Htb.out.stay hst3 (hno _ hs2a)) xb.kind xb.int xb.name (.slice Ab xb.args.length cb')
        have hw := TB.stay_all w.heap.size w3 xb.kind xb.int xb.name (.slice Ab xb.args.length cb')
        have hFb3 := Kd.F_step (Kd.F_step HFb.out (fun j hj hl => hst3.block j hl (hno j hj.2))) (fun j hj hl => hw.block j hl (by omega))
        have hN4 := Kd.N_step hN3 (fun j hj hl => hw.block j hl (by omega))
        have hres3 := (Hres.out.stay hst3 (hno _ hs2b)).stay hw (by omega)
        have hst4 := (Hst.out.trans hst3 (S := fun _ => False) (fun j hj e => hno j (by omega) e)).trans hw (fun j hj e => by omega)
        have hlo3 : w2.heap.size ≤ w3.heap.size := Nat.le_trans hlo hst3.size
        have hlo4 := Nat.le_trans hlo3 hw.size
        go_roundg (SizeOf.sizeOf xb)
        case measure =>
          have := Hgk.out
          simp at this
          omega
        case rel => exact ⟨⟨acc ++ [xa], xb, Ab, cb', Nat.le_refl _, by rw [HRc.out]; simp, htb3, hlb, hFb3, hN4⟩, hres3, hlo4, hst4⟩
    · rw [items_end _ hp, List.append_nil] at HRc
      obtain ⟨Av, cv, rfl⟩ := Kd.N_slice Hro.out
      have r0 : wr.cell? ⟨w.heap.size + 1, 0, none⟩ = _ := cell_of Hres.out 0 _ rfl
      have r1 : wr.cell? ⟨w.heap.size + 1, 1, none⟩ = _ := cell_of Hres.out 1 _ rfl
      have r2 : wr.cell? ⟨w.heap.size + 1, 2, none⟩ = _ := cell_of Hres.out 2 _ rfl
      have r3 : wr.cell? ⟨w.heap.size + 1, 3, none⟩ = _ := cell_of Hres.out 3 _ rfl
      have fr : ∀ j : Nat, wr.frozen? ⟨w.heap.size + 1, j, none⟩ = false := free_of Hres.out
      obtain ⟨ck, cn, ci, ca⟩ := cur
      simp only at hp hq0 hq1 hq2 hq3 hcc
      have hnp : ck = 4 → cn = (⟨#[46]⟩ : ByteArray) → ca.length = 2 → False := fun h1 h2 h3 => hp ⟨h1, h2, h3⟩
      have Hnp := hide hnp
      clear hp hnp
      go_wp2_with fail
      all_goals try (exact absurd (Hnp.out (by assumption) (dot_of (by assumption)) (len2 (by assumption))) (fun e => e))
      all_goals go_region
      all_goals go_wp2_with fail
      all_goals first
        | have hck : ck = 4 := by assumption
          subst hck
          have hw2 := (TB.stay_all (w.heap.size + 1) wr 4 ci cn (.slice Ac ca.length cc)).drew
          have hb2 := TB.drew (TB.all Hres.out 4 ci cn (.slice Ac ca.length cc))
          refine bodyPost_ret (results_tmp_cell_row (p := 3) (t := 2) (ty := 24) rfl _ _ (w.heap.size + 1) 24 _ (0, 0) _ rfl hb2 Tryz.underlying24 rfl (by kernel_rfl)) rfl ?_
          unfold ItemsPost
          rw [HRc.out]
          exact ⟨Av, cv, Ac, cc, rfl, (Kd.N_reads' Hro.out).2.1, hcc, Kd.F_mono (Kd.F_step (Kd.N_F Hro.out) (fun j hj hl => hw2.block j hl (by omega))) (fun j hj => by omega), Kd.F_mono (Kd.F_step HFc.out (fun j hj hl => hw2.block j hl (by omega))) (fun j hj => by omega), Hst.out.trans hw2 (fun j hj e => by omega)⟩
        | skip
          have hw2 := (TB.stay_all (w.heap.size + 1) wr ck ci cn (.slice Ac ca.length cc)).drew
          have hb2 := TB.drew (TB.all Hres.out ck ci cn (.slice Ac ca.length cc))
          refine bodyPost_ret (results_tmp_cell_row (p := 3) (t := 2) (ty := 24) rfl _ _ (w.heap.size + 1) 24 _ (0, 0) _ rfl hb2 Tryz.underlying24 rfl (by kernel_rfl)) rfl ?_
          unfold ItemsPost
          rw [HRc.out]
          exact ⟨Av, cv, Ac, cc, rfl, (Kd.N_reads' Hro.out).2.1, hcc, Kd.F_mono (Kd.F_step (Kd.N_F Hro.out) (fun j hj hl => hw2.block j hl (by omega))) (fun j hj => by omega), Kd.F_mono (Kd.F_step HFc.out (fun j hj hl => hw2.block j hl (by omega))) (fun j hj => by omega), Hst.out.trans hw2 (fun j hj e => by omega)⟩
end Go.Proofs.YtgidbplaoijalaaGreatRDoor

/- The walks of package write, 1: bad, quote, functor, atom, Name. -/
namespace Go.Proofs.YtgidbplaoijalaaGreatRDoor
set_option linter.unusedSimpArgs false
open Go.RowKit Go.Proofs.YtgidbplaoijalaaGreatRDoorW.PrintWords
set_option linter.unusedVariables false

/-- A byte that no text writes. -/
def badC (c : UInt8) : Bool := n8 c != 9 && n8 c != 10 && (decide (n8 c < 32) || decide (126 < n8 c))
def badS (s : ByteArray) : Bool := s.data.toList.any badC

theorem conv_bytes (s : ByteArray) (w : World) : ∃ cap w1, (convert 9 71 (.string s)).run Tryz.prog w = .ok (.slice (some ⟨w.heap.size, 0, none⟩) s.size cap) w1 ∧
    (∀ k, k < s.size → w1.cell? ⟨w.heap.size, k, none⟩ = some (.int .u8 (pk (rest s k) 0))) ∧ Stay w w1 (fun _ => False) ∧ w.heap.size < w1.heap.size := by
  refine ⟨_, _, Lib.run_convert_string_bytes w 9 71 5 s Tryz.underlying9 Tryz.underlying71 Tryz.underlying5, fun k hk => ?_, Stay.of_below (Lib.bytesWorld_below _ _ _) _, by rw [Lib.bytesWorld_size]; omega⟩
  · rw [Lib.bytesWorld_cell w _ s k hk]
    have := pk_rest s k 0 (by simpa using hk)
    unfold pk n8 rest
    simp

set_option maxHeartbeats 1000000 in
set_option maxRecDepth 100000 in
theorem bad_any (s : ByteArray) (w : World) (hl : s.size ≤ 140737488355328) :
    Calls Tryz.prog 42 #[.string s] w fun e w' => e = .returned (.bool (badS s)) ∧ Stay w w' (fun _ => False) := by
  have hR : badS s = (rest s 0).any badC := rfl
  generalize badS s = R at hR ⊢
  have HR := hide hR
  clear hR
  obtain ⟨cap, w1, hcv, hcell, hst, hsz⟩ := conv_bytes s w
  have Hcell := hide hcell
  have Hst := hide hst
  clear hcell hst
  go_enter Tryz.func42, Tryz.ntmps42
  go_wp2_with fail
  go_loopw [8] (fun i wr => ∃ k : Nat, i = .int .i64 k ∧ k ≤ s.size ∧ R = (rest s k).any badC ∧ wr = w1) (fun i _ => s.size - (intOf i).toNat)
  case atStart => exact ⟨0, rfl, Nat.zero_le _, HR.out, rfl⟩
  case round =>
    obtain ⟨k, rfl, hk, heq, rfl⟩ := hrel
    have Heq := hide heq
    clear heq HR hcv
    by_cases hlt : k < s.size
    · have hc := Hcell.out k hlt
      rw [rest_cons s k hlt, List.any_cons] at Heq
      have hx : pk (rest s k) 0 = n8 ((rest s k).getD 0 0) := rfl
      rw [hx] at hc
      generalize (rest s k).getD 0 0 = c at hc Heq
      have hbc : badC c = _ := rfl
      conv at hbc => rhs; unfold badC
      generalize badC c = B at hbc Heq
      generalize n8 c = x at hbc hc
      have Hbc := hide hbc
      clear hx hbc
      go_wp2_with fail
      clear hc hsz
      all_goals first
        | refine ⟨⟨k + 1, by go_num, by omega, ?_, trivial⟩, by simp [intOf]; omega⟩
          rw [Heq.out]
          have hb : B = false := by
            rw [Hbc.out]
            by_cases h9 : x = 9
            · simp [h9]
            by_cases h10 : x = 10
            · simp [h10]
            simp_all
            try omega
          rw [hb, Bool.false_or]
        | go_ret
          refine ⟨?_, Hst.out⟩
          have hb : B = true := by
            rw [Hbc.out]
            simp_all
          rw [Heq.out, hb]
          rfl
    · have hke : k = s.size := by omega
      subst hke
      rw [rest_nil s s.size (Nat.le_refl _)] at Heq
      go_wp2_with fail
      go_ret
      exact ⟨by rw [Heq.out]; rfl, Hst.out⟩
/-- A byte in quotes. -/
def escC (c : UInt8) : List UInt8 := if n8 c = 9 then [92, 116] else if n8 c = 10 then [92, 110] else if n8 c = 39 ∨ n8 c = 92 then [92, c] else [c]
def quoteS (s : ByteArray) : List UInt8 := 39 :: (s.data.toList.flatMap escC ++ [39])

/-- A builder of the call's own, beside a row of a string's bytes. -/
structure QW (s : ByteArray) (w : World) (B : Nat) (g : Option Nat) (l : List UInt8) (W : World) : Prop where
  bld : Bld 73 [] w.heap.size g l W
  hg : ∀ q, g = some q → w.heap.size < q ∧ q ≠ B
  hB : w.heap.size < B ∧ B < W.heap.size
  cells : ∀ k, k < s.size → W.cell? ⟨B, k, none⟩ = some (.int .u8 (pk (rest s k) 0))
  st : Stay w W (fun _ => False)
theorem QW.step {s : ByteArray} {w W W1 : World} {B : Nat} {g g' : Option Nat} {l l' : List UInt8} (h : QW s w B g l W) (hb : Bld 73 [] w.heap.size g' l' W1) (hs : Stay W W1 (fun k => k = w.heap.size ∨ some k = g)) (hg' : g' = g ∨ ∃ k, g' = some k ∧ W.heap.size ≤ k) : QW s w B g' l' W1 := by
  refine ⟨hb, fun q hq => ?_, ⟨h.hB.1, Nat.lt_of_lt_of_le h.hB.2 hs.size⟩, fun k hk => hs.cell (h.cells k hk) (fun e => ?_), h.st.trans hs (fun k hk e => ?_)⟩
  · rcases hg' with e | ⟨k, e, hk⟩
    · exact h.hg q (e ▸ hq)
    · rw [e] at hq
      injection hq with hq
      have := h.hB
      omega
  · rcases e with e | e
    · have := h.hB; have e' : B = w.heap.size := e; omega
    · exact (h.hg B e.symm).2 rfl
  · rcases e with e | e
    · omega
    · have := (h.hg k e.symm).1; omega

theorem quote_step (s : ByteArray) (k : Nat) (h : k < s.size) : (rest s k).flatMap escC = escC ((rest s k).getD 0 0) ++ (rest s (k + 1)).flatMap escC := by
  conv => lhs; rw [rest_cons s k h]
  rw [List.flatMap_cons]

set_option maxHeartbeats 2000000 in
set_option maxRecDepth 100000 in
theorem quote_any (s : ByteArray) (w : World) (hl : s.size ≤ 1000000) :
    Calls Tryz.prog 107 #[.string s] w fun e w' => e = .returned (.string (bs (quoteS s))) ∧ Stay w w' (fun _ => False) := by
  have hR : quoteS s = [39] ++ ((rest s 0).flatMap escC ++ [39]) := rfl
  generalize quoteS s = R at hR ⊢
  have HR := hide hR
  clear hR
  go_enter Tryz.func107, Tryz.ntmps107
  go_wp2_with fail
  refine (writeByte_any bldT_own [] rfl w.heap.size none [] 39 39 rfl _ (Bld.fresh 73 [] w) (by simp)).mono ?_
  rintro e w1 ⟨rfl, g1, hb1, hs1, hg1⟩
  have hst1 : Stay w w1 (fun _ => False) := ((Stay.refl _ _).alloc _).trans hs1 (fun k hk e => by
    rcases e with e | e
    · omega
    · cases e)
  obtain ⟨cap, w2, hcv, hcell, hst2, hsz2⟩ := conv_bytes s w1
  have hq : QW s w w1.heap.size g1 ([] ++ [39]) w2 := by
    refine ⟨hb1.stay hst2 (fun e => e) (fun _ _ e => e), fun q hq => ?_, ⟨hb1.lt, hsz2⟩, hcell, hst1.trans hst2 (fun _ _ e => e)⟩
    rcases hg1 with e | ⟨k, e, hk⟩
    · rw [e] at hq; cases hq
    · rw [e] at hq
      injection hq with hq
      rw [alloc_size] at hk
      have := hb1.row q (by rw [e, hq])
      omega
  have Hq := hide hq
  clear hb1 hs1 hg1 hst1 hcell hst2 hq
  go_wp2_with fail
  go_loopw [10] (fun i wr => ∃ (k : Nat) (g : Option Nat) (l : List UInt8), i = .int .i64 k ∧ k ≤ s.size ∧ QW s w w1.heap.size g l wr ∧ l.length ≤ 1 + 2 * k ∧ R = l ++ ((rest s k).flatMap escC ++ [39])) (fun i _ => s.size - (intOf i).toNat)
  case atStart => exact ⟨0, g1, [] ++ [39], rfl, Nat.zero_le _, Hq.out, by simp, HR.out⟩
  case round =>
    obtain ⟨k, g, l, rfl, hk, hqw, hll, heq⟩ := hrel
    have Heq := hide heq
    have Hqw := hide hqw
    clear heq HR hcv hqw Hq
    by_cases hlt : k < s.size
    · have hc := Hqw.out.cells k hlt
      rw [quote_step s k hlt] at Heq
      have hx : pk (rest s k) 0 = n8 ((rest s k).getD 0 0) := rfl
      rw [hx] at hc
      generalize (rest s k).getD 0 0 = c at hc Heq
      clear hx
      have hbB := Hqw.out.hB
      by_cases e9 : n8 c = 9
      · have hes : escC c = [92, 116] := by unfold escC; rw [if_pos e9]
        have Hes := hide hes
        clear hes
        rw [e9] at hc
        go_wp2_with fail
        refine (writeString_any bldT_own [] rfl w.heap.size g l ⟨#[92, 116]⟩ _ Hqw.out.bld (by decide) (by show _ + 2 ≤ _; omega)).mono ?_
        rintro e w3 ⟨rfl, g3, hb', hs', hg'⟩
        have Hq3 := hide (Hqw.out.step hb' hs' hg')
        clear hb' hs' hg'
        go_wp2_with fail
        go_roundw
        case rel => exact ⟨k + 1, g3, l ++ [92, 116], by go_num, by omega, Hq3.out, by simp only [List.length_append, List.length_cons, List.length_nil]; omega, by rw [Heq.out, Hes.out]; simp⟩
        case measure => simp [intOf]; omega
      by_cases e10 : n8 c = 10
      · have hes : escC c = [92, 110] := by unfold escC; rw [if_neg e9, if_pos e10]
        have Hes := hide hes
        clear hes
        rw [e10] at hc
        go_wp2_with fail
        refine (writeString_any bldT_own [] rfl w.heap.size g l ⟨#[92, 110]⟩ _ Hqw.out.bld (by decide) (by show _ + 2 ≤ _; omega)).mono ?_
        rintro e w3 ⟨rfl, g3, hb', hs', hg'⟩
        have Hq3 := hide (Hqw.out.step hb' hs' hg')
        clear hb' hs' hg'
        go_wp2_with fail
        go_roundw
        case rel => exact ⟨k + 1, g3, l ++ [92, 110], by go_num, by omega, Hq3.out, by simp only [List.length_append, List.length_cons, List.length_nil]; omega, by rw [Heq.out, Hes.out]; simp⟩
        case measure => simp [intOf]; omega
      have f9 : (n8 c == 9) = false := by simp [e9]
      have f10 : (n8 c == 10) = false := by simp [e10]
      by_cases e39 : n8 c = 39
      · have hes : escC c = [92, c] := by unfold escC; rw [if_neg e9, if_neg e10, if_pos (.inl e39)]
        have Hes := hide hes
        have Hx := hide e39
        clear hes
        rw [e39] at hc
        go_wp2_with fail
        refine (writeByte_any bldT_own [] rfl w.heap.size g l 92 92 rfl _ Hqw.out.bld (by omega)).mono ?_
        rintro e w3 ⟨rfl, g3, hb', hs', hg'⟩
        have Hq3 := hide (Hqw.out.step hb' hs' hg')
        clear hb' hs' hg'
        go_wp2_with fail
        refine (writeByte_any bldT_own [] rfl w.heap.size g3 (l ++ [92]) c 39 Hx.out.symm _ Hq3.out.bld (by simp only [List.length_append, List.length_cons, List.length_nil]; omega)).mono ?_
        rintro e w4 ⟨rfl, g4, hb', hs', hg'⟩
        have Hq4 := hide (Hq3.out.step hb' hs' hg')
        clear hb' hs' hg'
        go_wp2_with fail
        go_roundw
        case rel => exact ⟨k + 1, g4, l ++ [92] ++ [c], by go_num, by omega, Hq4.out, by simp only [List.length_append, List.length_cons, List.length_nil]; omega, by rw [Heq.out, Hes.out]; simp⟩
        case measure => simp [intOf]; omega
      by_cases e92 : n8 c = 92
      · have hes : escC c = [92, c] := by unfold escC; rw [if_neg e9, if_neg e10, if_pos (.inr e92)]
        have Hes := hide hes
        have Hx := hide e92
        clear hes
        rw [e92] at hc
        go_wp2_with fail
        refine (writeByte_any bldT_own [] rfl w.heap.size g l 92 92 rfl _ Hqw.out.bld (by omega)).mono ?_
        rintro e w3 ⟨rfl, g3, hb', hs', hg'⟩
        have Hq3 := hide (Hqw.out.step hb' hs' hg')
        clear hb' hs' hg'
        go_wp2_with fail
        refine (writeByte_any bldT_own [] rfl w.heap.size g3 (l ++ [92]) c 92 Hx.out.symm _ Hq3.out.bld (by simp only [List.length_append, List.length_cons, List.length_nil]; omega)).mono ?_
        rintro e w4 ⟨rfl, g4, hb', hs', hg'⟩
        have Hq4 := hide (Hq3.out.step hb' hs' hg')
        clear hb' hs' hg'
        go_wp2_with fail
        go_roundw
        case rel => exact ⟨k + 1, g4, l ++ [92] ++ [c], by go_num, by omega, Hq4.out, by simp only [List.length_append, List.length_cons, List.length_nil]; omega, by rw [Heq.out, Hes.out]; simp⟩
        case measure => simp [intOf]; omega
      have f39 : (n8 c == 39) = false := by simp [e39]
      have f92 : (n8 c == 92) = false := by simp [e92]
      have hes : escC c = [c] := by unfold escC; rw [if_neg e9, if_neg e10, if_neg (fun h => h.elim e39 e92)]
      have Hes := hide hes
      clear hes
      go_wp2_with fail
      refine (writeByte_any bldT_own [] rfl w.heap.size g l c (n8 c) rfl _ Hqw.out.bld (by omega)).mono ?_
      rintro e w3 ⟨rfl, g3, hb', hs', hg'⟩
      have Hq3 := hide (Hqw.out.step hb' hs' hg')
      clear hb' hs' hg'
      go_wp2_with fail
      go_roundw
      case rel => exact ⟨k + 1, g3, l ++ [c], by go_num, by omega, Hq3.out, by simp only [List.length_append, List.length_cons, List.length_nil]; omega, by rw [Heq.out, Hes.out]; simp⟩
      case measure => simp [intOf]; omega
    · have hke : k = s.size := by omega
      subst hke
      rw [rest_nil s s.size (Nat.le_refl _), List.flatMap_nil, List.nil_append] at Heq
      go_wp2_with fail
      refine (writeByte_any bldT_own [] rfl w.heap.size g l 39 39 rfl _ Hqw.out.bld (by omega)).mono ?_
      rintro e w3 ⟨rfl, g3, hb', hs', hg'⟩
      have Hq3 := hide (Hqw.out.step hb' hs' hg')
      clear hb' hs' hg'
      go_wp2_with fail
      refine (string_any bldT_own [] rfl w.heap.size g3 (l ++ [39]) _ Hq3.out.bld (by simp)).mono ?_
      rintro e w4 ⟨rfl, hs4⟩
      have hst4 : Stay w w4 (fun _ => False) := Hq3.out.st.trans hs4 (fun j hj e => by have := (Hq3.out.hg j e.symm).1; omega)
      go_wp2_with fail
      go_ret
      exact ⟨by rw [Heq.out]; rfl, hst4⟩
end Go.Proofs.YtgidbplaoijalaaGreatRDoor

/- The walks of package write, 2: functor, atom, Name. -/
namespace Go.Proofs.YtgidbplaoijalaaGreatRDoor
set_option linter.unusedSimpArgs false
open Go.RowKit Go.Proofs.YtgidbplaoijalaaGreatRDoorW.PrintWords
set_option linter.unusedVariables false

def functorS (s : ByteArray) : List UInt8 := if bareS s = true then s.data.toList else quoteS s
def atomS (s : ByteArray) : List UInt8 := if s = (⟨#[91, 93]⟩ : ByteArray) ∨ s = (⟨#[123, 125]⟩ : ByteArray) then s.data.toList else functorS s

theorem str_of {s : ByteArray} {l : List UInt8} (h : s.toList = l) : s = bs l := by
  rw [Lib.toList_data] at h
  rw [← bs_of s, h]
theorem str_ne {s : ByteArray} {l : List UInt8} (h : ¬ s.toList = l) : ¬ s = bs l := by
  rw [Lib.toList_data] at h
  intro e
  rw [e, bs_list] at h
  exact h rfl

theorem tab_named : Tryz.prog.globalNamed "internal/strconv.uint64pow10" = some 3 := by kernel_rfl
/-- What the walks ask of the world: three variables of the library. -/
structure Laid (w : World) : Prop where
  rng : RangeVar w
  max : MaxVar w
  nine : 9 ≤ w.heap.size
  tab : Lib.TabIs Tryz.prog w "internal/strconv.uint64pow10" .u64 Lib.pow10Tab
theorem Laid.stay {w w1 : World} {S : Nat → Prop} (h : Laid w) (hs : Stay w w1 S) (hn : ∀ k, k < 9 → ¬ S k) : Laid w1 := by
  refine ⟨h.rng.stay hs (hn _ (by decide)), h.max.stay hs (hn _ (by decide)), Nat.le_trans h.nine hs.size, ?_⟩
  have ht := h.tab
  have hb := hs.block 3 (Nat.lt_of_lt_of_le (by decide) h.nine) (hn _ (by decide))
  unfold Lib.TabIs World.var? at ht ⊢
  rw [tab_named] at ht ⊢
  simp only [Option.bind_some] at ht ⊢
  rw [hb]
  exact ht
theorem Stay.grow {w w1 : World} {S : Nat → Prop} (h : Stay w w1 S) (os : Array Obj) : Stay w (Go.Sort.grow w1 os) S :=
  ⟨h.os, h.tape, h.output, by show _ ≤ (w1.heap ++ os).size; rw [Array.size_append]; have := h.size; omega, fun k hk hn => by
    show (w1.heap ++ os)[k]? = _
    rw [Array.getElem?_append_left (Nat.lt_of_lt_of_le hk h.size)]
    exact h.block k hk hn⟩
theorem fmt_any (i : Int) (h0 : -9223372036854775808 ≤ i) (h1 : i ≤ 9223372036854775807) (w : World) (hL : Laid w) :
    Calls Tryz.prog 71 #[.int .i64 i, .int .i64 10] w fun e w' => e = .returned (.string (bs (Lib.itoa i))) ∧ Stay w w' (fun _ => False) :=
  (Tryz.strconv_FormatInt_10 i h0 h1 w hL.tab).mono (by rintro e w' ⟨rfl, k, os, rfl⟩; exact ⟨rfl, ((Stay.refl _ _).drewN k).grow os⟩)

set_option maxHeartbeats 1000000 in
theorem functor_any (s : ByteArray) (w : World) (hL : Laid w) (hl : s.size ≤ 1000000) :
    Calls Tryz.prog 73 #[.string s] w fun e w' => e = .returned (.string (bs (functorS s))) ∧ Stay w w' (fun _ => False) := by
  have hb := bare_any s w hL.rng hL.max hL.nine
  have hR : functorS s = _ := rfl
  conv at hR => rhs; unfold functorS
  generalize functorS s = R at hR ⊢
  generalize bareS s = B at hR hb
  have HR := hide hR
  clear hR hL
  go_enter Tryz.func73, Tryz.ntmps73
  go_wp2_with fail
  refine hb.mono ?_
  rintro e w1 ⟨rfl, hs1⟩
  have Hs1 := hide hs1
  clear hs1 hb
  cases B with
  | true =>
    go_wp2_with fail
    go_ret
    exact ⟨by rw [HR.out, if_pos trivial, bs_of]; rfl, Hs1.out⟩
  | false =>
    go_wp2_with fail
    refine (quote_any s _ hl).mono ?_
    rintro e w2 ⟨rfl, hs2⟩
    go_wp2_with fail
    go_ret
    exact ⟨by rw [HR.out, if_neg (by simp)]; rfl, Hs1.out.trans hs2 (fun _ _ h => h)⟩

set_option maxHeartbeats 1000000 in
theorem atom_any (s : ByteArray) (w : World) (hL : Laid w) (hl : s.size ≤ 1000000) :
    Calls Tryz.prog 43 #[.string s] w fun e w' => e = .returned (.string (bs (atomS s))) ∧ Stay w w' (fun _ => False) := by
  have hf := functor_any s w hL hl
  have hR : atomS s = _ := rfl
  conv at hR => rhs; unfold atomS
  generalize atomS s = R at hR ⊢
  have HR := hide hR
  have Hf := hide hf
  clear hR hL hf
  by_cases h1 : s = (⟨#[91, 93]⟩ : ByteArray)
  · rw [if_pos (.inl h1)] at HR
    subst h1
    go_enter Tryz.func43, Tryz.ntmps43
    go_wp2_with fail
    go_ret
    exact ⟨by rw [HR.out]; rfl, Stay.refl _ _⟩
  by_cases h2 : s = (⟨#[123, 125]⟩ : ByteArray)
  · rw [if_pos (.inr h2)] at HR
    subst h2
    go_enter Tryz.func43, Tryz.ntmps43
    go_wp2_with fail
    go_ret
    exact ⟨by rw [HR.out]; rfl, Stay.refl _ _⟩
  rw [if_neg (fun h => h.elim h1 h2)] at HR
  have n1 : (s.toList == [91, 93]) = false := by
    have : ¬ s.toList = [91, 93] := fun h => h1 (str_of h)
    simpa using this
  have n2 : (s.toList == [123, 125]) = false := by
    have : ¬ s.toList = [123, 125] := fun h => h2 (str_of h)
    simpa using this
  clear h1 h2
  go_enter Tryz.func43, Tryz.ntmps43
  go_wp2_with fail
  refine Hf.out.mono ?_
  rintro e w1 ⟨rfl, hs1⟩
  go_wp2_with fail
  go_ret
  exact ⟨by rw [HR.out]; rfl, hs1⟩

def nameS (s : ByteArray) : List UInt8 × Int := if 64 < s.size then ([], 2) else if badS s = true then ([], 80) else (atomS s, 0)

set_option maxHeartbeats 1000000 in
theorem name_any (s : ByteArray) (w : World) (hL : Laid w) :
    Calls Tryz.prog 15 #[.string s] w fun e w' => e = .returned (.tuple #[.string (bs (nameS s).1), .int .i64 (nameS s).2]) ∧ Stay w w' (fun _ => False) := by
  have hR : nameS s = _ := rfl
  conv at hR => rhs; unfold nameS
  generalize nameS s = R at hR ⊢
  have HR := hide hR
  have HL := hide hL
  clear hR hL
  by_cases h1 : 64 < s.size
  · rw [if_pos h1] at HR
    go_enter Tryz.func15, Tryz.ntmps15
    go_wp2_with fail
    go_ret2
    exact ⟨by rw [HR.out]; rfl, Stay.refl _ _⟩
  · rw [if_neg h1] at HR
    have hb := bad_any s w (by omega)
    generalize badS s = B at HR hb
    go_enter Tryz.func15, Tryz.ntmps15
    go_wp2_with fail
    refine hb.mono ?_
    rintro e w1 ⟨rfl, hs1⟩
    have Hs1 := hide hs1
    clear hs1 hb
    cases B with
    | true =>
      rw [if_pos rfl] at HR
      go_wp2_with fail
      go_ret2
      exact ⟨by rw [HR.out]; rfl, Hs1.out⟩
    | false =>
      rw [if_neg (by decide)] at HR
      go_wp2_with fail
      refine (atom_any s _ (HL.out.stay Hs1.out (fun _ _ e => e)) (by omega)).mono ?_
      rintro e w2 ⟨rfl, hs2⟩
      go_wp2_with fail
      go_ret2
      exact ⟨by rw [HR.out]; rfl, Hs1.out.trans hs2 (fun _ _ h => h)⟩
end Go.Proofs.YtgidbplaoijalaaGreatRDoor

/- Package write in plain Lean: a term's text. -/
namespace Go.Proofs.YtgidbplaoijalaaGreatRDoor
set_option linter.unusedSimpArgs false
set_option linter.unusedVariables false

def dotN : ByteArray := ⟨#[46]⟩
def nilN : ByteArray := ⟨#[91, 93]⟩

mutual
/-- A term's text. -/
def termS : Tm → List UInt8
  | ⟨k, nm, i, ts⟩ =>
    if k = 1 then 95 :: Lib.itoa i
    else if k = 2 then Lib.itoa i
    else if k = 3 then atomS nm
    else if k = 4 then
      if nm = dotN ∧ ts.length = 2 then 91 :: (pairS ts ++ [93])
      else functorS nm ++ (40 :: (allS ts ++ [41]))
    else []
termination_by t => (SizeOf.sizeOf t, 0)
/-- Terms' texts, commas between. -/
def allS : List Tm → List UInt8
  | [] => []
  | t :: ts => termS t ++ moreS ts
termination_by ts => (SizeOf.sizeOf ts, 0)
def moreS : List Tm → List UInt8
  | [] => []
  | t :: ts => 44 :: (termS t ++ moreS ts)
termination_by ts => (SizeOf.sizeOf ts, 0)
/-- A pair's inside. -/
def pairS : List Tm → List UInt8
  | [a, b] => termS a ++ tailS b
  | _ => []
termination_by ts => (SizeOf.sizeOf ts, 0)
/-- What stands behind an item. -/
def tailS : Tm → List UInt8
  | ⟨k, nm, i, ts⟩ =>
    if k = 4 ∧ nm = dotN ∧ ts.length = 2 then 44 :: pairS ts
    else if k = 3 ∧ nm = nilN then []
    else 124 :: termS ⟨k, nm, i, ts⟩
termination_by t => (SizeOf.sizeOf t, 1)
end

theorem termS_eq (t : Tm) : termS t = if t.kind = 1 then 95 :: Lib.itoa t.int else if t.kind = 2 then Lib.itoa t.int else if t.kind = 3 then atomS t.name
    else if t.kind = 4 then (if t.name = dotN ∧ t.args.length = 2 then 91 :: (pairS t.args ++ [93]) else functorS t.name ++ (40 :: (allS t.args ++ [41]))) else [] := by
  obtain ⟨k, nm, i, ts⟩ := t
  rw [termS]
theorem tailS_eq (t : Tm) : tailS t = if t.kind = 4 ∧ t.name = dotN ∧ t.args.length = 2 then 44 :: pairS t.args else if t.kind = 3 ∧ t.name = nilN then [] else 124 :: termS t := by
  obtain ⟨k, nm, i, ts⟩ := t
  rw [tailS]
theorem termS4 (nm : ByteArray) (i : Int) (ts : List Tm) : termS ⟨4, nm, i, ts⟩ = if nm = dotN ∧ ts.length = 2 then 91 :: (pairS ts ++ [93]) else functorS nm ++ (40 :: (allS ts ++ [41])) := by
  rw [termS, if_neg (by decide), if_neg (by decide), if_neg (by decide), if_pos rfl]
theorem pairS_two (a b : Tm) : pairS [a, b] = termS a ++ tailS b := by rw [pairS]
theorem allS_cons (t : Tm) (ts : List Tm) : allS (t :: ts) = termS t ++ moreS ts := by rw [allS]
theorem moreS_cons (t : Tm) (ts : List Tm) : moreS (t :: ts) = 44 :: (termS t ++ moreS ts) := by rw [moreS]
theorem allS_nil : allS [] = [] := by rw [allS]
theorem moreS_nil : moreS [] = [] := by rw [moreS]

/-- What a list's end adds. -/
def endS (t : Tm) : List UInt8 := if t.kind = 3 ∧ t.name = nilN then [] else 124 :: termS t

theorem moreS_append (xs ys : List Tm) : moreS (xs ++ ys) = moreS xs ++ moreS ys := by
  induction xs with
  | nil => rw [moreS_nil]; rfl
  | cons x xs ih => rw [List.cons_append, moreS_cons, moreS_cons, ih]; simp

/-- A list by its items and its end. -/
theorem tailS_items (N : Nat) : ∀ t : Tm, SizeOf.sizeOf t ≤ N → tailS t = moreS (items t).1 ++ endS (items t).2 := by
  induction N with
  | zero => intro t h; cases t; simp at h
  | succ N ih =>
    intro t hz
    by_cases hp : t.kind = 4 ∧ t.name = dotN ∧ t.args.length = 2
    · obtain ⟨k, nm, i, ts⟩ := t
      obtain ⟨h1, h2, h3⟩ := hp
      simp only at h1 h2 h3
      match ts, h3 with
      | [a, b], _ =>
        rw [tailS_eq, if_pos ⟨h1, h2, rfl⟩, items_pair _ _ _ _ _ ⟨h1, h2⟩]
        simp only
        rw [pairS_two, moreS_cons, ih b (by simp at hz; omega)]
        simp
    · rw [items_end t hp, tailS_eq, if_neg hp, moreS_nil]
      rfl
theorem termS_items (t : Tm) (h : t.kind = 4 ∧ t.name = dotN ∧ t.args.length = 2) : termS t = 91 :: (allS (items t).1 ++ endS (items t).2 ++ [93]) := by
  obtain ⟨k, nm, i, ts⟩ := t
  obtain ⟨h1, h2, h3⟩ := h
  simp only at h1 h2 h3
  match ts, h3 with
  | [a, b], _ =>
    subst h1
    rw [termS4, if_pos ⟨h2, rfl⟩, items_pair _ _ _ _ _ ⟨rfl, h2⟩]
    simp only
    rw [pairS_two, allS_cons, tailS_items (SizeOf.sizeOf b) b (Nat.le_refl _)]
    simp

mutual
/-- Does a term bear a name that no text writes? -/
def failS : Tm → Bool
  | ⟨k, nm, i, ts⟩ => if k = 3 then badS nm else if k = 4 then badS nm || failL ts else false
def failL : List Tm → Bool
  | [] => false
  | t :: ts => failS t || failL ts
end
theorem failS_eq (t : Tm) : failS t = if t.kind = 3 then badS t.name else if t.kind = 4 then badS t.name || failL t.args else false := by
  obtain ⟨k, nm, i, ts⟩ := t
  rw [failS]

theorem clean_same (N : Nat) : (∀ t : Tm, SizeOf.sizeOf t ≤ N → termS (clean t) = termS t ∧ tailS (clean t) = tailS t ∧ failS (clean t) = failS t) ∧
    (∀ ts : List Tm, SizeOf.sizeOf ts ≤ N → allS (ts.map clean) = allS ts ∧ moreS (ts.map clean) = moreS ts ∧ pairS (ts.map clean) = pairS ts ∧ failL (ts.map clean) = failL ts) := by
  induction N with
  | zero => exact ⟨fun t h => by cases t; simp at h, fun ts h => by cases ts <;> simp at h⟩
  | succ N ih =>
    have one : ∀ t : Tm, SizeOf.sizeOf t ≤ N + 1 → termS (clean t) = termS t ∧ tailS (clean t) = tailS t ∧ failS (clean t) = failS t := by
      intro t hz
      obtain ⟨k, nm, i, ts⟩ := t
      by_cases h4 : k = 4
      · subst h4
        have hts := ih.2 ts (by simp at hz; omega)
        have hcl : clean ⟨4, nm, i, ts⟩ = ⟨4, nm, 0, ts.map clean⟩ := by rw [clean_eq, if_pos rfl]
        have ht : termS (clean ⟨4, nm, i, ts⟩) = termS ⟨4, nm, i, ts⟩ := by
          rw [hcl, termS_eq, termS_eq ⟨4, nm, i, ts⟩]
          simp only [List.length_map]
          rw [hts.1, hts.2.2.1]
          rfl
        refine ⟨ht, ?_, ?_⟩
        · rw [tailS_eq, tailS_eq ⟨4, nm, i, ts⟩, ht, hcl]
          simp only [List.length_map]
          rw [hts.2.2.1]
        · rw [hcl, failS_eq, failS_eq ⟨4, nm, i, ts⟩]
          simp only
          rw [hts.2.2.2]
      · have hcl : clean ⟨k, nm, i, ts⟩ = head1 ⟨k, nm, i, ts⟩ := by rw [clean_eq, if_neg h4]
        have hk : (head1 ⟨k, nm, i, ts⟩).kind = k := by unfold head1; split <;> rfl
        have ht : termS (head1 ⟨k, nm, i, ts⟩) = termS ⟨k, nm, i, ts⟩ := by
          by_cases h1 : k = 1
          · subst h1; rw [termS_eq, termS_eq ⟨1, nm, i, ts⟩]; rfl
          by_cases h2 : k = 2
          · subst h2; rw [termS_eq, termS_eq ⟨2, nm, i, ts⟩]; rfl
          by_cases h3 : k = 3
          · subst h3; rw [termS_eq, termS_eq ⟨3, nm, i, ts⟩]; rfl
          rw [termS_eq, termS_eq ⟨k, nm, i, ts⟩, hk]
          simp only [h1, h2, h3, h4, if_false]
        rw [hcl]
        refine ⟨ht, ?_, ?_⟩
        · rw [tailS_eq, tailS_eq ⟨k, nm, i, ts⟩, ht, hk]
          simp only
          simp only [h4, false_and, if_false]
          by_cases h3 : k = 3
          · subst h3; rfl
          · simp only [h3, false_and, if_false]
        · rw [failS_eq, failS_eq ⟨k, nm, i, ts⟩, hk]
          simp only
          by_cases h3 : k = 3
          · subst h3; rfl
          · simp only [h3, h4, if_false]
    refine ⟨one, fun ts hz => ?_⟩
    cases ts with
    | nil => simp
    | cons t ts =>
      have ht := one t (by simp at hz; omega)
      have hts := ih.2 ts (by simp at hz; omega)
      refine ⟨?_, ?_, ?_, ?_⟩
      · rw [List.map_cons, allS_cons, allS_cons, ht.1, hts.2.1]
      · rw [List.map_cons, moreS_cons, moreS_cons, ht.1, hts.2.1]
      · match ts with
        | [] => rw [List.map_cons, List.map_nil, pairS, pairS] <;> simp
        | [b] =>
          have hb := one b (by simp at hz; omega)
          rw [List.map_cons, List.map_cons, List.map_nil, pairS_two, pairS_two, ht.1, hb.2.1]
        | b :: c :: r => rw [List.map_cons, List.map_cons, List.map_cons, pairS, pairS] <;> simp
      · rw [List.map_cons, failL, failL, ht.2.2, hts.2.2.2]
end Go.Proofs.YtgidbplaoijalaaGreatRDoor

/- What a right term is, in plain Lean; how long its text is. -/
namespace Go.Proofs.YtgidbplaoijalaaGreatRDoor
set_option linter.unusedSimpArgs false
set_option linter.unusedVariables false

mutual
def cnt : Tm → Nat
  | ⟨k, nm, i, ts⟩ => if k = 4 then cntL ts + 1 else 1
def cntL : List Tm → Nat
  | [] => 0
  | t :: ts => cnt t + cntL ts
end
mutual
def dep : Tm → Nat
  | ⟨k, nm, i, ts⟩ => if k = 4 then depL ts + 1 else 1
def depL : List Tm → Nat
  | [] => 0
  | t :: ts => max (dep t) (depL ts)
end
mutual
def plainR : Tm → Bool
  | ⟨k, nm, i, ts⟩ => if k = 1 then decide (1 ≤ i) else if k = 2 then true else if k = 3 then decide (nm.size ≤ 64)
    else if k = 4 then decide (nm.size ≤ 64) && decide (1 ≤ ts.length) && decide (ts.length ≤ 8) && plainL ts else false
def plainL : List Tm → Bool
  | [] => true
  | t :: ts => plainR t && plainL ts
end
mutual
/-- All numbers are int64s. -/
def rngT : Tm → Bool
  | ⟨k, nm, i, ts⟩ => decide (-9223372036854775808 ≤ i) && decide (i ≤ 9223372036854775807) && rngL ts
def rngL : List Tm → Bool
  | [] => true
  | t :: ts => rngT t && rngL ts
end
theorem cnt_pos (t : Tm) : 1 ≤ cnt t := by
  obtain ⟨k, nm, i, ts⟩ := t
  rw [cnt]; split <;> omega
theorem dep_pos (t : Tm) : 1 ≤ dep t := by
  obtain ⟨k, nm, i, ts⟩ := t
  rw [dep]; split <;> omega

/-- measure, by its parts. -/
theorem meas_iff (N : Nat) : (∀ t : Tm, SizeOf.sizeOf t ≤ N → ∀ d n : Int,
      ((plainR t = true ∧ n + cnt t ≤ 2000 ∧ d + dep t ≤ 101) → meas t d n = ((dep t : Int), true, n + cnt t)) ∧ (¬ (plainR t = true ∧ n + cnt t ≤ 2000 ∧ d + dep t ≤ 101) → (meas t d n).2.1 = false)) ∧
    (∀ ts : List Tm, SizeOf.sizeOf ts ≤ N → ∀ d e n : Int,
      ((plainL ts = true ∧ (ts = [] ∨ n + cntL ts ≤ 2000 ∧ d + depL ts ≤ 101)) → measL ts d e n = (max e (depL ts), true, n + cntL ts) ∨ ts = [] ∧ measL ts d e n = (e, true, n)) ∧
      (¬ (plainL ts = true ∧ (ts = [] ∨ n + cntL ts ≤ 2000 ∧ d + depL ts ≤ 101)) → (measL ts d e n).2.1 = false)) := by
  induction N with
  | zero => exact ⟨fun t h => by cases t; simp at h, fun ts h => by cases ts <;> simp at h⟩
  | succ N ih =>
    have one : ∀ t : Tm, SizeOf.sizeOf t ≤ N + 1 → ∀ d n : Int,
      ((plainR t = true ∧ n + cnt t ≤ 2000 ∧ d + dep t ≤ 101) → meas t d n = ((dep t : Int), true, n + cnt t)) ∧ (¬ (plainR t = true ∧ n + cnt t ≤ 2000 ∧ d + dep t ≤ 101) → (meas t d n).2.1 = false) := by
      intro t hz d n
      obtain ⟨k, nm, i, ts⟩ := t
      rw [meas_eq, plainR, cnt, dep]
      dsimp only
      by_cases hb : n + 1 > 2000 ∨ d > 100
      · rw [if_pos hb]
        refine ⟨fun h => ?_, fun _ => rfl⟩
        obtain ⟨_, h2, h3⟩ := h
        exfalso
        split at h2 <;> split at h3 <;> omega
      rw [if_neg hb]
      by_cases h1 : k = 1
      · subst h1
        simp only [if_true]
        constructor
        · rintro ⟨h, _, _⟩
          simp at h
          simp [h]
        · intro h
          simp
          apply Classical.byContradiction
          intro hi
          exact h ⟨by simp; omega, by simp; omega, by simp; omega⟩
      by_cases h2 : k = 2
      · subst h2
        constructor
        · intro _; simp
        · intro h
          exfalso
          exact h ⟨by simp, by simp; omega, by simp; omega⟩
      by_cases h3 : k = 3
      · subst h3
        constructor
        · rintro ⟨h, _, _⟩
          simp at h
          simp
          omega
        · intro h
          simp
          apply Classical.byContradiction
          intro hi
          exact h ⟨by simp; omega, by simp; omega, by simp; omega⟩
      by_cases h4 : k = 4
      · subst h4
        have hts := ih.2 ts (by simp at hz; omega) (d + 1) 0 (n + 1)
        simp only [show ¬ (4 : Int) = 1 from by decide, show ¬ (4 : Int) = 2 from by decide, show ¬ (4 : Int) = 3 from by decide, if_false, if_true]
        by_cases hl : ts.length < 1 ∨ ts.length > 8
        · rw [if_pos hl]
          refine ⟨fun h => ?_, fun _ => rfl⟩
          obtain ⟨h, _, _⟩ := h
          simp only [Bool.and_eq_true, decide_eq_true_eq] at h
          omega
        rw [if_neg hl]
        have hne : ts ≠ [] := by intro h; subst h; simp at hl
        by_cases hc : plainL ts = true ∧ (ts = [] ∨ n + 1 + cntL ts ≤ 2000 ∧ d + 1 + depL ts ≤ 101)
        · have hm := hts.1 hc
          rcases hm with hm | hm
          · rw [hm]
            obtain ⟨hp, hc2⟩ := hc
            have hc2 := hc2.resolve_left hne
            constructor
            · rintro ⟨h, h5, h6⟩
              simp only [Bool.and_eq_true, decide_eq_true_eq] at h
              simp
              omega
            · intro h
              simp
              apply Classical.byContradiction
              intro hi
              refine h ⟨by simp [hp]; omega, by simp; omega, by simp; omega⟩
          · exact absurd hm.1 hne
        · have hm := hts.2 hc
          refine ⟨fun h => ?_, fun _ => ?_⟩
          · exfalso
            apply hc
            obtain ⟨h, h5, h6⟩ := h
            simp only [Bool.and_eq_true, decide_eq_true_eq] at h
            exact ⟨h.2, .inr (by simp at h5 h6; omega)⟩
          · generalize measL ts (d + 1) 0 (n + 1) = r at hm ⊢
            obtain ⟨e, b, m⟩ := r
            simp only at hm
            subst hm
            rfl
      · simp only [h1, h2, h3, h4, if_false]
        exact ⟨fun h => by simp at h, fun _ => by trivial⟩
    refine ⟨one, fun ts hz d e n => ?_⟩
    cases ts with
    | nil => exact ⟨fun _ => .inr ⟨rfl, by rw [measL]⟩, fun h => absurd ⟨by rw [plainL], .inl rfl⟩ h⟩
    | cons t ts =>
      have ht := one t (by simp at hz; omega) d n
      rw [measL, plainL, cntL, depL]
      have hcp := cnt_pos t
      have hdp := dep_pos t
      by_cases hc : plainR t = true ∧ n + cnt t ≤ 2000 ∧ d + dep t ≤ 101
      · rw [ht.1 hc]
        dsimp only
        have hts := ih.2 ts (by simp at hz; omega) d (max e (dep t)) (n + cnt t)
        by_cases hc2 : plainL ts = true ∧ (ts = [] ∨ n + cnt t + cntL ts ≤ 2000 ∧ d + depL ts ≤ 101)
        · have hm := hts.1 hc2
          refine ⟨fun _ => .inl ?_, fun h => ?_⟩
          · rcases hm with hm | ⟨rfl, hm⟩
            · rw [hm]; ext <;> simp <;> omega
            · rw [hm, cntL, depL]; ext <;> simp <;> omega
          · exfalso
            apply h
            refine ⟨by simp [hc.1, hc2.1], .inr ?_⟩
            rcases hc2.2 with rfl | h2
            · rw [cntL, depL]; simp; omega
            · simp; omega
        · refine ⟨fun h => ?_, fun _ => hts.2 hc2⟩
          exfalso
          apply hc2
          obtain ⟨h1, h2⟩ := h
          simp only [Bool.and_eq_true] at h1
          refine ⟨h1.2, ?_⟩
          rcases h2 with h2 | h2
          · cases h2
          · right; simp at h2; omega
      · have hm := ht.2 hc
        refine ⟨fun h => ?_, fun _ => ?_⟩
        · exfalso
          apply hc
          obtain ⟨h1, h2⟩ := h
          simp only [Bool.and_eq_true] at h1
          rcases h2 with h2 | h2
          · cases h2
          · exact ⟨h1.1, by simp at h2; omega⟩
        · generalize meas t d n = r at hm ⊢
          obtain ⟨e', b, m⟩ := r
          simp only at hm
          subst hm
          rfl
theorem rightB_iff (t : Tm) : rightB t = true ↔ plainR t = true ∧ cnt t ≤ 2000 ∧ dep t ≤ 100 := by
  have h := (meas_iff (SizeOf.sizeOf t)).1 t (Nat.le_refl _) 1 0
  unfold rightB
  constructor
  · intro hr
    apply Classical.byContradiction
    intro hn
    rw [h.2 (fun hh => hn ⟨hh.1, by omega, by omega⟩)] at hr
    cases hr
  · intro hh
    rw [h.1 ⟨hh.1, by omega, by omega⟩]

theorem plainL_mem {ts : List Tm} (h : plainL ts = true) : ∀ t ∈ ts, plainR t = true := by
  induction ts with
  | nil => intro t ht; cases ht
  | cons x ts ih =>
    rw [plainL, Bool.and_eq_true] at h
    intro t ht
    rcases List.mem_cons.1 ht with rfl | ht
    · exact h.1
    · exact ih h.2 t ht
theorem rngL_mem {ts : List Tm} (h : rngL ts = true) : ∀ t ∈ ts, rngT t = true := by
  induction ts with
  | nil => intro t ht; cases ht
  | cons x ts ih =>
    rw [rngL, Bool.and_eq_true] at h
    intro t ht
    rcases List.mem_cons.1 ht with rfl | ht
    · exact h.1
    · exact ih h.2 t ht
theorem cntL_mem {ts : List Tm} {t : Tm} (h : t ∈ ts) : cnt t ≤ cntL ts := by
  induction ts with
  | nil => cases h
  | cons x ts ih =>
    rw [cntL]
    rcases List.mem_cons.1 h with rfl | h
    · omega
    · have := ih h; omega
theorem depL_mem {ts : List Tm} {t : Tm} (h : t ∈ ts) : dep t ≤ depL ts := by
  induction ts with
  | nil => cases h
  | cons x ts ih =>
    rw [depL]
    rcases List.mem_cons.1 h with rfl | h
    · omega
    · have := ih h; omega

theorem quoteS_length (s : ByteArray) : (quoteS s).length ≤ 2 * s.size + 2 := by
  have h : ∀ l : List UInt8, (l.flatMap escC).length ≤ 2 * l.length := by
    intro l
    induction l with
    | nil => simp
    | cons c l ih =>
      rw [List.flatMap_cons, List.length_append, List.length_cons]
      have : (escC c).length ≤ 2 := by unfold escC; split; simp; split; simp; split <;> simp
      omega
  have := h s.data.toList
  rw [size_list] at this
  unfold quoteS
  simp only [List.length_cons, List.length_append, List.length_nil]
  omega
theorem functorS_length (s : ByteArray) : (functorS s).length ≤ 2 * s.size + 2 := by
  unfold functorS
  split
  · rw [size_list]; omega
  · exact quoteS_length s
theorem atomS_length (s : ByteArray) : (atomS s).length ≤ 2 * s.size + 2 := by
  unfold atomS
  split
  · rw [size_list]; omega
  · exact functorS_length s

theorem text_length (N : Nat) : (∀ t : Tm, SizeOf.sizeOf t ≤ N → plainR t = true → rngT t = true → (termS t).length + 2 ≤ 200 * cnt t ∧ (tailS t).length + 1 ≤ 200 * cnt t) ∧
    (∀ ts : List Tm, SizeOf.sizeOf ts ≤ N → plainL ts = true → rngL ts = true → (allS ts).length ≤ 200 * cntL ts ∧ (moreS ts).length ≤ 200 * cntL ts ∧ (pairS ts).length ≤ 200 * cntL ts) := by
  induction N with
  | zero => exact ⟨fun t h => by cases t; simp at h, fun ts h => by cases ts <;> simp at h⟩
  | succ N ih =>
    have one : ∀ t : Tm, SizeOf.sizeOf t ≤ N + 1 → plainR t = true → rngT t = true → (termS t).length + 2 ≤ 200 * cnt t ∧ (tailS t).length + 1 ≤ 200 * cnt t := by
      intro t hz hp hr
      have hts : (termS t).length + 2 ≤ 200 * cnt t := by
        obtain ⟨k, nm, i, ts⟩ := t
        rw [plainR] at hp
        rw [rngT] at hr
        simp only [Bool.and_eq_true, decide_eq_true_eq] at hr
        have hi := Lib.itoa_length_le i hr.1.1 hr.1.2
        have hc := cnt_pos ⟨k, nm, i, ts⟩
        by_cases h1 : k = 1
        · subst h1; rw [termS, if_pos rfl, List.length_cons]; omega
        by_cases h2 : k = 2
        · subst h2; rw [termS, if_neg h1, if_pos rfl]; omega
        by_cases h3 : k = 3
        · subst h3
          rw [if_neg h1, if_neg h2, if_pos rfl] at hp
          have := atomS_length nm
          simp at hp
          rw [termS, if_neg h1, if_neg h2, if_pos rfl]; omega
        rw [if_neg h1, if_neg h2, if_neg h3] at hp
        by_cases h4 : k = 4
        · subst h4
          rw [if_pos rfl] at hp
          simp only [Bool.and_eq_true, decide_eq_true_eq] at hp
          have hl := ih.2 ts (by simp at hz; omega) hp.2 hr.2
          have hf := functorS_length nm
          rw [termS4, cnt, if_pos rfl]
          split
          · simp only [List.length_cons, List.length_append, List.length_nil]; omega
          · simp only [List.length_cons, List.length_append, List.length_nil]; omega
        · rw [if_neg h4] at hp; cases hp
      refine ⟨hts, ?_⟩
      rw [tailS_eq]
      split
      · rename_i h
        obtain ⟨k, nm, i, ts⟩ := t
        obtain ⟨h4, _, _⟩ := h
        simp only at h4
        subst h4
        rw [plainR, if_neg (by decide), if_neg (by decide), if_neg (by decide), if_pos rfl] at hp
        rw [rngT] at hr
        simp only [Bool.and_eq_true, decide_eq_true_eq] at hp hr
        have hl := ih.2 ts (by simp at hz; omega) hp.2 hr.2
        rw [cnt, if_pos rfl, List.length_cons]
        simp only
        omega
      · split
        · have := cnt_pos t; simp; omega
        · rw [List.length_cons]; omega
    refine ⟨one, fun ts hz hp hr => ?_⟩
    cases ts with
    | nil => rw [allS_nil, moreS_nil, pairS] <;> simp
    | cons t ts =>
      rw [plainL, Bool.and_eq_true] at hp
      rw [rngL, Bool.and_eq_true] at hr
      have ht := one t (by simp at hz; omega) hp.1 hr.1
      have hts := ih.2 ts (by simp at hz; omega) hp.2 hr.2
      rw [allS_cons, moreS_cons, cntL]
      refine ⟨by rw [List.length_append]; omega, by rw [List.length_cons, List.length_append]; omega, ?_⟩
      match ts with
      | [] => rw [pairS] <;> simp
      | [b] =>
        rw [plainL, Bool.and_eq_true] at hp
        rw [rngL, Bool.and_eq_true] at hr
        have hb := one b (by simp at hz; omega) hp.2.1 hr.2.1
        rw [pairS_two, List.length_append, cntL]
        omega
      | b :: c :: r => rw [pairS] <;> simp
end Go.Proofs.YtgidbplaoijalaaGreatRDoor

/- A list's items, in plain Lean. -/
namespace Go.Proofs.YtgidbplaoijalaaGreatRDoor
set_option linter.unusedSimpArgs false
set_option linter.unusedVariables false

theorem clean_props (N : Nat) : (∀ t : Tm, SizeOf.sizeOf t ≤ N → cnt (clean t) = cnt t ∧ dep (clean t) = dep t ∧ (plainR t = true → plainR (clean t) = true) ∧ (rngT t = true → rngT (clean t) = true)) ∧
    (∀ ts : List Tm, SizeOf.sizeOf ts ≤ N → cntL (ts.map clean) = cntL ts ∧ depL (ts.map clean) = depL ts ∧ (plainL ts = true → plainL (ts.map clean) = true) ∧ (rngL ts = true → rngL (ts.map clean) = true)) := by
  induction N with
  | zero => exact ⟨fun t h => by cases t; simp at h, fun ts h => by cases ts <;> simp at h⟩
  | succ N ih =>
    have one : ∀ t : Tm, SizeOf.sizeOf t ≤ N + 1 → cnt (clean t) = cnt t ∧ dep (clean t) = dep t ∧ (plainR t = true → plainR (clean t) = true) ∧ (rngT t = true → rngT (clean t) = true) := by
      intro t hz
      obtain ⟨k, nm, i, ts⟩ := t
      have hts := ih.2 ts (by simp at hz; omega)
      by_cases h4 : k = 4
      · subst h4
        rw [show clean ⟨4, nm, i, ts⟩ = ⟨4, nm, 0, ts.map clean⟩ from by rw [clean_eq, if_pos rfl]]
        refine ⟨by rw [cnt, cnt, hts.1], by rw [dep, dep, hts.2.1], ?_, ?_⟩
        · rw [plainR, plainR]
          simp only [show ¬ (4 : Int) = 1 from by decide, show ¬ (4 : Int) = 2 from by decide, show ¬ (4 : Int) = 3 from by decide, if_false, if_true, List.length_map, Bool.and_eq_true]
          rintro ⟨⟨⟨h1, h2⟩, h3⟩, h5⟩
          exact ⟨⟨⟨h1, h2⟩, h3⟩, hts.2.2.1 h5⟩
        · rw [rngT, rngT]
          simp only [Bool.and_eq_true]
          rintro ⟨_, h⟩
          exact ⟨⟨by decide, by decide⟩, hts.2.2.2 h⟩
      · rw [show clean ⟨k, nm, i, ts⟩ = head1 ⟨k, nm, i, ts⟩ from by rw [clean_eq, if_neg h4]]
        have hk : (head1 ⟨k, nm, i, ts⟩).kind = k := by unfold head1; split <;> rfl
        have hc : ∀ t : Tm, ¬ t.kind = 4 → cnt t = 1 ∧ dep t = 1 := by
          rintro ⟨k, nm, i, ts⟩ h
          rw [cnt, dep, if_neg h, if_neg h]
          exact ⟨rfl, rfl⟩
        have hc1 := hc (head1 ⟨k, nm, i, ts⟩) (by rw [hk]; exact h4)
        have hc2 := hc ⟨k, nm, i, ts⟩ h4
        refine ⟨by rw [hc1.1, hc2.1], by rw [hc1.2, hc2.2], ?_, ?_⟩
        · unfold head1
          by_cases h1 : k = 1
          · subst h1; simp only [true_or, if_true]; rw [plainR, plainR]; exact fun h => h
          by_cases h2 : k = 2
          · subst h2; simp only [or_true, if_true]; rw [plainR, plainR]; exact fun h => h
          simp only [h1, h2, or_self, if_false]
          rw [plainR, plainR]
          simp only [h1, h2, h4, if_false]
          exact fun h => h
        · rw [rngT]
          simp only [Bool.and_eq_true]
          rintro ⟨h, _⟩
          unfold head1
          split
          · rw [rngT, rngL]; simp only [Bool.and_eq_true]; exact ⟨h, trivial⟩
          · rw [rngT, rngL]; simp only [Bool.and_eq_true]; exact ⟨⟨by decide, by decide⟩, trivial⟩
    refine ⟨one, fun ts hz => ?_⟩
    cases ts with
    | nil => simp [cntL, depL, plainL, rngL]
    | cons t ts =>
      have ht := one t (by simp at hz; omega)
      have hts := ih.2 ts (by simp at hz; omega)
      rw [List.map_cons, cntL, cntL, depL, depL, plainL, plainL, rngL, rngL]
      refine ⟨by rw [ht.1, hts.1], by rw [ht.2.1, hts.2.1], ?_, ?_⟩
      · simp only [Bool.and_eq_true]; exact fun h => ⟨ht.2.2.1 h.1, hts.2.2.1 h.2⟩
      · simp only [Bool.and_eq_true]; exact fun h => ⟨ht.2.2.2 h.1, hts.2.2.2 h.2⟩

def isPair (t : Tm) : Prop := t.kind = 4 ∧ t.name = dotN ∧ t.args.length = 2

theorem items_props (N : Nat) : ∀ t : Tm, SizeOf.sizeOf t ≤ N → plainR t = true → rngT t = true →
    plainL (items t).1 = true ∧ rngL (items t).1 = true ∧ plainR (items t).2 = true ∧ rngT (items t).2 = true ∧ cntL (items t).1 + cnt (items t).2 ≤ cnt t ∧ depL (items t).1 ≤ dep t ∧ dep (items t).2 ≤ dep t ∧
    (isPair t → cntL (items t).1 + cnt (items t).2 < cnt t) ∧ failS t = (failL (items t).1 || failS (items t).2) := by
  induction N with
  | zero => intro t h; cases t; simp at h
  | succ N ih =>
    intro t hz hp hr
    by_cases h : isPair t
    · obtain ⟨k, nm, i, ts⟩ := t
      obtain ⟨h1, h2, h3⟩ := h
      simp only at h1 h2 h3
      match ts, h3 with
      | [a, b], _ =>
        subst h1
        rw [plainR, if_neg (by decide), if_neg (by decide), if_neg (by decide), if_pos rfl] at hp
        rw [rngT] at hr
        simp only [Bool.and_eq_true, plainL, rngL] at hp hr
        have hb := ih b (by simp at hz; omega) hp.2.2.1 hr.2.2.1
        obtain ⟨b1, b2, b3, b4, b5, b6, b7, b8, b9⟩ := hb
        rw [items_pair _ _ _ _ _ ⟨rfl, h2⟩]
        simp only
        have hbad : badS nm = false := by rw [h2]; decide
        rw [cnt, if_pos rfl, dep, if_pos rfl, failS, if_neg (by decide), if_pos rfl, hbad]
        simp only [plainL, rngL, cntL, depL, failL]
        refine ⟨by rw [hp.2.1, b1]; rfl, by rw [hr.2.1, b2]; rfl, b3, b4, by omega, by omega, by omega, fun _ => by omega, ?_⟩
        rw [b9]
        simp [Bool.or_assoc]
    · rw [items_end t h]
      exact ⟨by rw [plainL], by rw [rngL], hp, hr, by simp [cntL], by simp [depL], Nat.le_refl _, fun hh => absurd hh h, by simp [failL]⟩
end Go.Proofs.YtgidbplaoijalaaGreatRDoor

/- The walks of package write, 3: the writer. -/
namespace Go.Proofs.YtgidbplaoijalaaGreatRDoor
set_option linter.unusedSimpArgs false
open Go.RowKit Go.Proofs.YtgidbplaoijalaaGreatRDoorW.PrintWords
set_option linter.unusedVariables false

theorem bldT_writer : BldT 75 3 := ⟨by kernel_rfl, by decide, by decide⟩

/-- A writer under way: block b, its bytes l, the mark f. -/
structure WPre (b : Nat) (g : Option Nat) (l : List UInt8) (f : Bool) (w : World) : Prop where
  bld : Bld 75 [.bool f] b g l w
  b9 : 9 ≤ b
  g9 : ∀ q, g = some q → 9 ≤ q
  laid : Laid w
/-- What a step of writing leaves. -/
structure WNext (b : Nat) (g : Option Nat) (l' : List UInt8) (f' : Bool) (w w' : World) : Prop where
  ex : ∃ g', WPre b g' l' f' w' ∧ (g' = g ∨ ∃ k, g' = some k ∧ w.heap.size ≤ k)
  st : Stay w w' (fun k => k = b ∨ some k = g)
theorem WPre.lt {b : Nat} {g : Option Nat} {l : List UInt8} {f : Bool} {w : World} (h : WPre b g l f w) : b < w.heap.size := h.bld.lt
theorem WPre.glt {b : Nat} {g : Option Nat} {l : List UInt8} {f : Bool} {w : World} (h : WPre b g l f w) : ∀ q, g = some q → q < w.heap.size := h.bld.row
/-- Other blocks have turned, or come. -/
theorem WPre.quiet {b : Nat} {g : Option Nat} {l : List UInt8} {f : Bool} {w w1 : World} (h : WPre b g l f w) (hs : Stay w w1 (fun _ => False)) : WPre b g l f w1 :=
  ⟨h.bld.stay hs (fun e => e) (fun _ _ e => e), h.b9, h.g9, h.laid.stay hs (fun _ _ e => e)⟩
theorem WPre.step {b : Nat} {g g' : Option Nat} {l l' : List UInt8} {f : Bool} {w w1 : World} (h : WPre b g l f w) (hb : Bld 75 [.bool f] b g' l' w1) (hs : Stay w w1 (fun k => k = b ∨ some k = g)) (hg : g' = g ∨ ∃ k, g' = some k ∧ w.heap.size ≤ k) : WPre b g' l' f w1 := by
  refine ⟨hb, h.b9, fun q hq => ?_, h.laid.stay hs (fun k hk e => ?_)⟩
  · rcases hg with e | ⟨k, e, hk⟩
    · exact h.g9 q (e ▸ hq)
    · rw [e] at hq
      injection hq with hq
      have := h.laid.nine
      omega
  · rcases e with e | e
    · have := h.b9; omega
    · have := h.g9 k e.symm; omega
theorem WNext.refl {b : Nat} {g : Option Nat} {l : List UInt8} {f : Bool} {w w1 : World} (h : WPre b g l f w) (hs : Stay w w1 (fun _ => False)) : WNext b g l f w w1 :=
  ⟨⟨g, h.quiet hs, .inl rfl⟩, hs.mono (fun _ _ e => e.elim)⟩
/-- One step behind the other. -/
theorem WNext.trans {b : Nat} {g : Option Nat} {l1 l2 : List UInt8} {f1 f2 : Bool} {w w1 w2 : World} (h : WNext b g l1 f1 w w1) (k : ∀ g1, WPre b g1 l1 f1 w1 → WNext b g1 l2 f2 w1 w2) : WNext b g l2 f2 w w2 := by
  obtain ⟨⟨g1, hp, hg⟩, hs⟩ := h
  obtain ⟨⟨g2, hp2, hg2⟩, hs2⟩ := k g1 hp
  have hsz := hs.size
  refine ⟨⟨g2, hp2, ?_⟩, hs.trans hs2 (fun j hj e => ?_)⟩
  · rcases hg2 with e | ⟨j, e, hj⟩
    · rw [e]; exact hg
    · exact .inr ⟨j, e, by omega⟩
  · rcases e with e | e
    · exact .inl e
    · rcases hg with e2 | ⟨q, e2, hq⟩
      · exact .inr (e.trans e2)
      · rw [e2] at e
        injection e with e
        omega

/-- One byte. -/
theorem wByte {b : Nat} {g : Option Nat} {l : List UInt8} {f : Bool} {w : World} (h : WPre b g l f w) (c : UInt8) (x : Int) (hx : x = c.toNat) (hl : l.length ≤ 1000000) :
    Calls Tryz.prog 69 #[.pointer (some ⟨b, 0, none⟩), .int .u8 x] w fun e w' => e = .returned .nilIface ∧ WNext b g (l ++ [c]) f w w' :=
  (writeByte_any bldT_writer [.bool f] rfl b g l c x hx w h.bld (by omega)).mono (by
    rintro e w' ⟨rfl, g', hb, hs, hg⟩
    exact ⟨rfl, ⟨g', h.step hb hs hg, hg⟩, hs⟩)
/-- A text that is not empty. -/
theorem wStr {b : Nat} {g : Option Nat} {l : List UInt8} {f : Bool} {w : World} (h : WPre b g l f w) (s : List UInt8) (h1 : 1 ≤ s.length) (h2 : s.length ≤ 1000000) (hl : l.length ≤ 1000000) :
    Calls Tryz.prog 70 #[.pointer (some ⟨b, 0, none⟩), .string (bs s)] w fun e w' => e = .returned (.tuple #[.int .i64 (bs s).size, .nilIface]) ∧ WNext b g (l ++ s) f w w' :=
  (writeString_any bldT_writer [.bool f] rfl b g l (bs s) w h.bld (by rw [bs_size]; exact h1) (by rw [bs_size]; omega)).mono (by
    rintro e w' ⟨rfl, g', hb, hs, hg⟩
    rw [bs_list] at hb
    exact ⟨rfl, ⟨g', h.step hb hs hg, hg⟩, hs⟩)
/-- The mark. -/
theorem wMark {b : Nat} {g : Option Nat} {l : List UInt8} {f : Bool} {w : World} (h : WPre b g l f w) (f' : Bool) : WNext b g l f' w (w.setCell ⟨b, 2, none⟩ (.bool f')) := by
  obtain ⟨⟨p, v, hb, hp, ho, hv, h0⟩, hne⟩ := h.bld
  have hs := Stay.set1 w b 2 (.bool f')
  refine ⟨⟨g, ⟨⟨⟨p, v, ?_, hp, own_move ho (fun k hk => ?_), hv, h0⟩, hne⟩, h.b9, h.g9, h.laid.stay hs (fun k hk e => by have := h.b9; omega)⟩, .inl rfl⟩, hs.mono (fun _ _ e => .inl e)⟩
  · have := set_of hb 2 (.bool f')
    exact this
  · have hk2 : g = some k := hv.symm.trans hk
    exact hs.block k (h.glt k hk2) (fun e => hne (e ▸ hk2))
theorem WPre.c2 {b : Nat} {g : Option Nat} {l : List UInt8} {f : Bool} {w : World} (h : WPre b g l f w) : w.cell? ⟨b, 2, none⟩ = some (.bool f) ∧ w.frozen? ⟨b, 2, none⟩ = false := by
  obtain ⟨⟨p, v, hb, hp, ho, hv, h0⟩, hne⟩ := h.bld
  exact ⟨cell_of hb 2 _ rfl, free_of hb 2⟩

/-- What writing a text leaves. -/
def WPost (b : Nat) (g : Option Nat) (l txt : List UInt8) (f fl : Bool) (w : World) (e : Ending) (w' : World) : Prop := e = .returned (.tuple #[]) ∧ WNext b g (l ++ txt) (f || fl) w w'

/-- The contract of term, for terms of at most N symbols. -/
def TermOk (N : Nat) : Prop := ∀ (t : Tm), cnt t ≤ N → cnt t ≤ 2000 → dep t ≤ 100 → plainR t = true → rngT t = true → ∀ (b : Nat) (g : Option Nat) (l : List UInt8) (f : Bool) (A : Option Addr) (c : Nat) (ok : Nat → Prop) (w : World),
  WPre b g l f w → l.length + 200 * cnt t ≤ 1000000 → Kd.F kTm w ok A t.args.length t.args → t.args.length ≤ c → (∀ k, ok k → k ≠ b ∧ some k ≠ g) →
  Calls Tryz.prog 39 #[.pointer (some ⟨b, 0, none⟩), tmV t A c] w (WPost b g l (termS t) f (failS t) w)
/-- The contract of all. -/
def AllOk (N : Nat) : Prop := ∀ (ts : List Tm), cntL ts ≤ N → cntL ts ≤ 2000 → depL ts ≤ 100 → plainL ts = true → rngL ts = true → ∀ (b : Nat) (g : Option Nat) (l : List UInt8) (f : Bool) (A : Option Addr) (c : Nat) (ok : Nat → Prop) (w : World),
  WPre b g l f w → l.length + 200 * cntL ts ≤ 1000000 → Kd.F kTm w ok A ts.length ts → ts.length ≤ c → (∀ k, ok k → k ≠ b ∧ some k ≠ g) →
  Calls Tryz.prog 74 #[.pointer (some ⟨b, 0, none⟩), .slice A ts.length c] w (WPost b g l (allS ts) f (failL ts) w)

/-- all's text so far. -/
theorem all_split (ts : List Tm) (k : Nat) (x : Tm) (hx : ts[k]? = some x) : allS (ts.take (k + 1)) = allS (ts.take k) ++ ((if k = 0 then [] else [44]) ++ termS x) ∧ failL (ts.take (k + 1)) = (failL (ts.take k) || failS x) ∧ cntL (ts.take (k + 1)) = cntL (ts.take k) + cnt x := by
  have hm : ∀ (ts : List Tm) (k : Nat), ts[k]? = some x → moreS (ts.take (k + 1)) = moreS (ts.take k) ++ (44 :: termS x) ∧ failL (ts.take (k + 1)) = (failL (ts.take k) || failS x) ∧ cntL (ts.take (k + 1)) = cntL (ts.take k) + cnt x := by
    intro ts
    induction ts with
    | nil => intro k h; simp at h
    | cons t ts ih =>
      intro k h
      cases k with
      | zero =>
        simp only [List.getElem?_cons_zero, Option.some.injEq] at h
        subst h
        simp [moreS_cons, moreS_nil, failL, cntL]
      | succ k =>
        rw [List.getElem?_cons_succ] at h
        obtain ⟨h1, h2, h3⟩ := ih k h
        rw [List.take_succ_cons, List.take_succ_cons, moreS_cons, moreS_cons, h1, failL, failL, h2, cntL, cntL, h3]
        refine ⟨by simp, by rw [Bool.or_assoc], by omega⟩
  cases ts with
  | nil => simp at hx
  | cons t ts =>
    cases k with
    | zero =>
      simp only [List.getElem?_cons_zero, Option.some.injEq] at hx
      subst hx
      simp [allS_cons, moreS_nil, allS_nil, failL, cntL]
    | succ k =>
      rw [List.getElem?_cons_succ] at hx
      obtain ⟨h1, h2, h3⟩ := hm ts k hx
      rw [List.take_succ_cons, List.take_succ_cons, allS_cons, allS_cons, h1, failL, failL, h2, cntL, cntL, h3, if_neg (by omega)]
      refine ⟨by simp, by rw [Bool.or_assoc], by omega⟩
end Go.Proofs.YtgidbplaoijalaaGreatRDoor

/- The walks of package write, 4: all. -/
namespace Go.Proofs.YtgidbplaoijalaaGreatRDoor
set_option linter.unusedSimpArgs false
open Go.RowKit Go.Proofs.YtgidbplaoijalaaGreatRDoorW.PrintWords
set_option linter.unusedVariables false

theorem depL_take (ts : List Tm) (k : Nat) (x : Tm) (hx : ts[k]? = some x) : dep x ≤ depL ts := depL_mem (List.mem_of_getElem? hx)

/-- Behind a step the writer's row is the elder one, or new. -/
theorem WNext.away {b : Nat} {g : Option Nat} {l : List UInt8} {f : Bool} {w w1 : World} {ok : Nat → Prop} (hok : ∀ k, ok k → (k ≠ b ∧ some k ≠ g) ∧ k < w.heap.size) {g1 : Option Nat} (hg : g1 = g ∨ ∃ k, g1 = some k ∧ w.heap.size ≤ k) : ∀ k, ok k → k ≠ b ∧ some k ≠ g1 := by
  intro k hk
  obtain ⟨⟨h1, h2⟩, h3⟩ := hok k hk
  refine ⟨h1, fun e => ?_⟩
  rcases hg with e2 | ⟨q, e2, hq⟩
  · exact h2 (e.trans e2)
  · rw [e2] at e
    injection e with e
    omega

theorem allS_len1 (ts : List Tm) (h : ts ≠ []) (hp : plainL ts = true) (hr : rngL ts = true) : (allS ts).length + 1 ≤ 200 * cntL ts := by
  cases ts with
  | nil => exact absurd rfl h
  | cons t ts =>
    rw [plainL, Bool.and_eq_true] at hp
    rw [rngL, Bool.and_eq_true] at hr
    have h1 := (text_length (SizeOf.sizeOf t)).1 t (Nat.le_refl _) hp.1 hr.1
    have h2 := (text_length (SizeOf.sizeOf ts)).2 ts (Nat.le_refl _) hp.2 hr.2
    rw [allS_cons, cntL, List.length_append]
    omega
/-- Behind what has been written so far (its row is g1), a step more. -/
theorem WNext.go {b : Nat} {g g1 : Option Nat} {l2 : List UInt8} {f2 : Bool} {w w1 w2 : World} (hg : g1 = g ∨ ∃ k, g1 = some k ∧ w.heap.size ≤ k) (hs : Stay w w1 (fun k => k = b ∨ some k = g)) (h : WNext b g1 l2 f2 w1 w2) : WNext b g l2 f2 w w2 := by
  obtain ⟨⟨g2, hp2, hg2⟩, hs2⟩ := h
  have hsz := hs.size
  refine ⟨⟨g2, hp2, ?_⟩, hs.trans hs2 (fun j hj e => ?_)⟩
  · rcases hg2 with e | ⟨j, e, hj⟩
    · rw [e]; exact hg
    · exact .inr ⟨j, e, by omega⟩
  · rcases e with e | e
    · exact .inl e
    · rcases hg with e2 | ⟨q, e2, hq⟩
      · exact .inr (e.trans e2)
      · rw [e2] at e
        injection e with e
        omega
/-- Blocks have come, then a step. -/
theorem WNext.behind {b : Nat} {g : Option Nat} {l2 : List UInt8} {f2 : Bool} {w w1 w2 : World} (hs : Stay w w1 (fun _ => False)) (h : WNext b g l2 f2 w1 w2) : WNext b g l2 f2 w w2 :=
  WNext.go (.inl rfl) (hs.mono (fun _ _ e => e.elim)) h

set_option maxHeartbeats 2000000 in
set_option maxRecDepth 100000 in
theorem all_step {N : Nat} (ht : TermOk N) : AllOk N := by
  intro ts hN hc2000 hdep hpl hrl b g l f A c ok w hpre hlen hF hcap hok
  have HF := hide (Kd.F_bound hF)
  have HT := hide ht
  have Hpre := hide hpre
  have Hok := hide (fun k (hk : ok k ∧ k < w.heap.size) => (⟨hok k hk.1, hk.2⟩ : (k ≠ b ∧ some k ≠ g) ∧ k < w.heap.size))
  have Hpl := hide hpl
  have Hrl := hide hrl
  have hmax := Kd.F_max hF
  have Htl := hide ((text_length (SizeOf.sizeOf ts)).2)
  clear ht hF hpre hok hpl hrl Htl
  go_enter Tryz.func74, Tryz.ntmps74
  go_wp2_with fail
  go_loopw [8] (fun i wr => ∃ k : Nat, i = .int .i64 k ∧ k ≤ ts.length ∧ WNext b g (l ++ allS (ts.take k)) (f || failL (ts.take k)) w wr) (fun i _ => ts.length - (intOf i).toNat)
  case atStart => exact ⟨0, rfl, Nat.zero_le _, by simpa [allS_nil, failL] using WNext.refl Hpre.out (Stay.refl _ _)⟩
  case round =>
    obtain ⟨k, rfl, hk, hnx⟩ := hrel
    have Hnx := hide hnx
    clear hnx
    by_cases hlt : k < ts.length
    · obtain ⟨x, hx⟩ : ∃ x, ts[k]? = some x := ⟨_, List.getElem?_eq_getElem hlt⟩
      obtain ⟨⟨g1, hp1, hg1⟩, hs1⟩ := Hnx.out
      obtain ⟨ad, A3, c3, rfl, q0, q1, q2, q3, hl3, hF3, hok3⟩ := tm_at (hs1.F HF.out (fun b' hb' e => by
        have h := Hok.out b' hb'
        rcases e with e | e
        · exact h.1.1 e
        · exact h.1.2 e)) k x hx
      have HF3 := hide hF3
      have hxm := List.mem_of_getElem? hx
      have hcx := cntL_mem hxm
      have hdx := depL_mem hxm
      have hpx := hide (plainL_mem Hpl.out x hxm)
      have hrx := hide (rngL_mem Hrl.out x hxm)
      obtain ⟨sp1, sp2, sp3⟩ := all_split ts k x hx
      have hct : cntL (ts.take (k + 1)) ≤ cntL ts := by
        have : ∀ (ts : List Tm) (k : Nat), cntL (ts.take k) ≤ cntL ts := by
          intro ts
          induction ts with
          | nil => intro k; simp [cntL]
          | cons t ts ih => intro k; cases k with
            | zero => simp [cntL]
            | succ k => rw [List.take_succ_cons, cntL, cntL]; have := ih k; omega
        exact this ts (k + 1)
      have hlk : (allS (ts.take k)).length ≤ 200 * cntL (ts.take k) ∧ (0 < k → (allS (ts.take k)).length + 1 ≤ 200 * cntL (ts.take k)) := by
        have hpt : plainL (ts.take k) = true ∧ rngL (ts.take k) = true := by
          have : ∀ (ts : List Tm) (k : Nat), plainL ts = true → rngL ts = true → plainL (ts.take k) = true ∧ rngL (ts.take k) = true := by
            intro ts
            induction ts with
            | nil => intro k _ _; simp [plainL, rngL]
            | cons t ts ih => intro k h1 h2; cases k with
              | zero => simp [plainL, rngL]
              | succ k =>
                rw [plainL, Bool.and_eq_true] at h1
                rw [rngL, Bool.and_eq_true] at h2
                have := ih k h1.2 h2.2
                rw [List.take_succ_cons, plainL, rngL, h1.1, h2.1, this.1, this.2]
                exact ⟨rfl, rfl⟩
          exact this ts k Hpl.out Hrl.out
        refine ⟨((text_length (SizeOf.sizeOf (ts.take k))).2 _ (Nat.le_refl _) hpt.1 hpt.2).1, fun hk => allS_len1 _ ?_ hpt.1 hpt.2⟩
        intro h
        have h2 : (ts.take k).length = 0 := by rw [h]; rfl
        rw [List.length_take] at h2
        omega
      obtain ⟨hlk, hlk1⟩ := hlk
      have Hsp1 := hide sp1
      have Hsp2 := hide sp2
      have Hp1 := hide hp1
      have Hg1 := hide hg1
      have Hs1 := hide hs1
      generalize allS (ts.take k) = tk at Hsp1 hlk hlk1 Hp1 Hnx
      generalize failL (ts.take k) = fk at Hsp2 Hp1 Hnx
      have haw := WNext.away (l := l) (f := f) (w1 := wr) Hok.out Hg1.out
      have Haw := hide haw
      have hwr : w.heap.size ≤ wr.heap.size := hs1.size
      clear hF3 hx sp1 sp2 hp1 hg1 hs1 hxm haw
      have HTx := hide (HT.out x (by omega) (by omega) (by omega) hpx.out hrx.out b)
      by_cases hk0 : k = 0
      · clear hlk1
        have hkf : ¬ 0 < k := by omega
        have Hk0 := hide hk0
        clear hk0
        go_wp2_with fail
        have hq := Hp1.out.quiet ((Stay.refl wr (fun _ => False)).alloc (.cells #[.int .i64 x.kind, .string x.name, .int .i64 x.int, .slice A3 x.args.length c3] 24))
        refine (HTx.out g1 _ _ A3 c3 _ _ hq (by simp only [List.length_append]; omega) (Kd.F_alloc HF3.out _) hl3 Haw.out).mono ?_
        rintro e w3 ⟨rfl, hn3⟩
        have hfin : WNext b g (l ++ allS (ts.take (k + 1))) (f || failL (ts.take (k + 1))) w w3 := by
          rw [Hsp1.out, Hsp2.out, if_pos Hk0.out, List.nil_append, ← List.append_assoc, ← Bool.or_assoc]
          exact WNext.go Hg1.out Hs1.out (WNext.behind ((Stay.refl wr _).alloc _) hn3)
        have Hfin := hide hfin
        clear hn3 hfin
        go_wp2_with fail
        go_roundw
        case rel => exact ⟨k + 1, by go_num, by omega, Hfin.out⟩
        case measure => simp [intOf]; omega
      · have hkf : 0 < k := by omega
        have hlk2 := hlk1 hkf
        clear hlk1
        have Hk0 := hide hk0
        clear hk0
        go_wp2_with fail
        have hq := Hp1.out.quiet ((Stay.refl wr (fun _ => False)).alloc (.cells #[.int .i64 x.kind, .string x.name, .int .i64 x.int, .slice A3 x.args.length c3] 24))
        refine (wByte hq 44 44 rfl (by simp only [List.length_append]; omega)).mono ?_
        rintro e w2 ⟨rfl, hn2⟩
        obtain ⟨⟨g2, hp2, hg2⟩, hs2⟩ := hn2
        have hgl := Hp1.out.glt
        have hbl := Hp1.out.lt
        have hnb : ¬ (wr.heap.size = b ∨ some wr.heap.size = g1) := fun e => by
          rcases e with e | e
          · omega
          · have := hgl _ e.symm; omega
        have hblk : w2.heap[wr.heap.size]? = some (.cells [.int .i64 x.kind, .string x.name, .int .i64 x.int, .slice A3 x.args.length c3].toArray 24 (0, 0)) := (hs2.block wr.heap.size (by simp) hnb).trans (heap_alloc_new _ _)
        have hF2 := hs2.F (Kd.F_alloc HF3.out _) (fun j hj e => by
          have h := Haw.out j hj
          rcases e with e | e
          · exact h.1 e
          · exact h.2 e)
        have haw2 : ∀ j, (ok j ∧ j < w.heap.size) → j ≠ b ∧ some j ≠ g2 := fun j hj => by
          have h := Haw.out j hj
          refine ⟨h.1, fun e => ?_⟩
          rcases hg2 with e2 | ⟨q, e2, hq⟩
          · exact h.2 (e.trans e2)
          · rw [e2] at e
            injection e with e
            rw [alloc_size] at hq
            have := hj.2
            omega
        have u0 : w2.cell? ⟨wr.heap.size, 0, none⟩ = _ := cell_of hblk 0 _ rfl
        have u1 : w2.cell? ⟨wr.heap.size, 1, none⟩ = _ := cell_of hblk 1 _ rfl
        have u2 : w2.cell? ⟨wr.heap.size, 2, none⟩ = _ := cell_of hblk 2 _ rfl
        have u3 : w2.cell? ⟨wr.heap.size, 3, none⟩ = _ := cell_of hblk 3 _ rfl
        have HF2 := hide hF2
        have Haw2 := hide haw2
        have Hp2 := hide hp2
        have Hn2 : Hid (WNext b g1 (l ++ tk ++ [44]) (f || fk) (wr.alloc (.cells #[.int .i64 x.kind, .string x.name, .int .i64 x.int, .slice A3 x.args.length c3] 24)) w2) := hide ⟨⟨g2, hp2, hg2⟩, hs2⟩
        have Hg2 := hide hg2
        have Hs2 := hide hs2
        clear hgl hnb hblk hF2 haw2 hp2 hg2 hs2 hq q0 q1 q2 q3
        go_wp2_with fail
        refine (HTx.out g2 _ _ A3 c3 _ _ Hp2.out (by simp only [List.length_append, List.length_cons, List.length_nil]; omega) HF2.out hl3 Haw2.out).mono ?_
        rintro e w3 ⟨rfl, hn3⟩
        have hfin : WNext b g (l ++ allS (ts.take (k + 1))) (f || failL (ts.take (k + 1))) w w3 := by
          rw [Hsp1.out, Hsp2.out, if_neg Hk0.out, ← List.append_assoc, ← List.append_assoc, ← Bool.or_assoc]
          exact WNext.go Hg1.out Hs1.out (WNext.behind ((Stay.refl wr _).alloc _) (WNext.go Hg2.out Hs2.out hn3))
        have Hfin := hide hfin
        clear hn3 hfin
        go_wp2_with fail
        go_roundw
        case rel => exact ⟨k + 1, by go_num, by omega, Hfin.out⟩
        case measure => simp [intOf]; omega
    · have hke : k = ts.length := by omega
      subst hke
      rw [List.take_length] at Hnx
      go_wp2_with fail
      go_end0
      exact ⟨rfl, Hnx.out⟩
end Go.Proofs.YtgidbplaoijalaaGreatRDoor

/- The walks of package write, 5: list. -/
namespace Go.Proofs.YtgidbplaoijalaaGreatRDoor
set_option linter.unusedSimpArgs false
open Go.RowKit Go.Proofs.YtgidbplaoijalaaGreatRDoorW.PrintWords
set_option linter.unusedVariables false

/-- The contract of list, for terms of at most N symbols. -/
def ListOk (N : Nat) : Prop := ∀ (t : Tm), cnt t ≤ N → cnt t ≤ 2000 → dep t ≤ 100 → plainR t = true → rngT t = true → isPair t → ∀ (b : Nat) (g : Option Nat) (l : List UInt8) (f : Bool) (A : Option Addr) (c : Nat) (ok : Nat → Prop) (w : World),
  WPre b g l f w → l.length + 200 * cnt t ≤ 1000000 → Kd.F kTm w ok A t.args.length t.args → t.args.length ≤ c → (∀ k, ok k → k ≠ b ∧ some k ≠ g) →
  Calls Tryz.prog 72 #[.pointer (some ⟨b, 0, none⟩), tmV t A c] w (WPost b g l (termS t) f (failS t) w)

theorem isPair_clean (t : Tm) (h : isPair t) : isPair (clean t) := by
  obtain ⟨k, nm, i, ts⟩ := t
  obtain ⟨h1, h2, h3⟩ := h
  simp only at h1 h2 h3
  subst h1
  rw [clean_eq, if_pos rfl]
  exact ⟨rfl, h2, by rw [List.length_map]; exact h3⟩
theorem failS_nil (t : Tm) (h : t.kind = 3 ∧ t.name = nilN) : failS t = false := by
  rw [failS_eq, if_pos h.1, h.2]
  decide

set_option maxHeartbeats 2000000 in
set_option maxRecDepth 100000 in
theorem list_step {N : Nat} (ht : TermOk N) (ha : AllOk N) : ListOk (N + 1) := by
  intro t hN hc2000 hdep hpl hrl hpair b g l f A c ok w hpre hlen hF hcap hok
  have hright : rightB t = true := (rightB_iff t).2 ⟨hpl, hc2000, hdep⟩
  have hit := fun o => items_any t A c ok (w.alloc o) hright (Kd.F_alloc hF o) hcap
  obtain ⟨cl1, cl2, cl3, cl4⟩ := (clean_props (SizeOf.sizeOf t)).1 t (Nat.le_refl _)
  obtain ⟨sm1, sm2, sm3⟩ := (clean_same (SizeOf.sizeOf t)).1 t (Nat.le_refl _)
  have htx := termS_items (clean t) (isPair_clean t hpair)
  obtain ⟨p1, p2, p3, p4, p5, p6, p7, p8, p9⟩ := items_props (SizeOf.sizeOf (clean t)) (clean t) (Nat.le_refl _) (cl3 hpl) (cl4 hrl)
  have p8 := p8 (isPair_clean t hpair)
  rw [sm1] at htx
  rw [sm3] at p9
  rw [cl1] at p5 p8
  rw [cl2] at p6 p7
  generalize items (clean t) = it at *
  obtain ⟨xs, en⟩ := it
  simp only at htx p1 p2 p3 p4 p5 p6 p7 p8 p9
  have Hit := hide hit
  have Htx := hide htx
  have H9 := hide p9
  have Hpre := hide hpre
  have HA := hide (ha xs (by omega) (by omega) (by omega) p1 p2 b)
  have HT := hide (ht en (by omega) (by omega) (by omega) p3 p4 b)
  have hal := ((text_length (SizeOf.sizeOf xs)).2 xs (Nat.le_refl _) p1 p2).1
  have hen := ((text_length (SizeOf.sizeOf en)).1 en (Nat.le_refl _) p3 p4).1
  have hcl := cnt_pos en
  generalize termS t = TX at Htx ⊢
  generalize failS t = FL at H9 ⊢
  clear hit htx p9 hpre ha ht sm1 sm2 sm3 cl1 cl2 cl3 cl4 p1 p2 p3 p4 hF hok
  obtain ⟨kd, nm, i, ts⟩ := t
  rw [show tmV ⟨kd, nm, i, ts⟩ A c = .agg #[.int .i64 kd, .string nm, .int .i64 i, .slice A ts.length c] from rfl] at *
  go_enter Tryz.func72, Tryz.ntmps72
  go_wp2_with fail
  refine (Hit.out _).mono ?_
  rintro e w1 ⟨A1, c1, A2, c2, rfl, hc1, hc2, hF1, hF2, hs1⟩
  simp only at hc1 hc2 hF1 hF2
  rw [alloc_size] at hF1 hF2
  rw [show tmV en A2 c2 = .agg #[.int .i64 en.kind, .string en.name, .int .i64 en.int, .slice A2 en.args.length c2] from rfl]
  have hbl := Hpre.out.lt
  have hgl := Hpre.out.glt
  have Hgl := hide hgl
  have hst1 : Stay w w1 (fun _ => False) := ((Stay.refl _ _).alloc _).trans hs1 (fun _ _ e => e)
  have hsz1 := hs1.size
  rw [alloc_size] at hsz1
  have hp1 := Hpre.out.quiet (hst1.alloc (.cells #[.int .i64 en.kind, .string en.name, .int .i64 en.int, .slice A2 en.args.length c2] 24))
  have Hst1 := hide hst1
  have HF1 := hide (Kd.F_bound hF1)
  have HF2 := hide (Kd.F_bound hF2)
  clear hs1 hst1 hF1 hF2 Hit hgl
  go_wp2_with fail
  refine (wByte hp1 91 91 rfl (by omega)).mono ?_
  rintro e w2 ⟨rfl, hn2⟩
  obtain ⟨⟨g2, hp2, hg2⟩, hs2⟩ := hn2
  have hz1 : w1.heap.size < w2.heap.size := by have := hs2.size; rw [alloc_size] at this; omega
  have hgg2 : ∀ j, w.heap.size < j → j ≤ w1.heap.size → j ≠ b ∧ some j ≠ g2 := fun j hj hj2 => ⟨by omega, fun e => by
    rcases hg2 with e2 | ⟨q, e2, hq⟩
    · have := Hgl.out j (by rw [← e2, ← e]); omega
    · rw [e2] at e; injection e with e; rw [alloc_size] at hq; omega⟩
  have hF1' := hs2.F (Kd.F_alloc HF1.out _) (fun j hj e => by
    rcases e with e | e
    · omega
    · have := Hgl.out j e.symm; omega)
  have hF2' := hs2.F (Kd.F_alloc HF2.out _) (fun j hj e => by
    rcases e with e | e
    · omega
    · have := Hgl.out j e.symm; omega)
  have hblk : w2.heap[w1.heap.size]? = some (.cells [.int .i64 en.kind, .string en.name, .int .i64 en.int, .slice A2 en.args.length c2].toArray 24 (0, 0)) := (hs2.block w1.heap.size (by simp) (fun e => by
    rcases e with e | e
    · omega
    · have := Hgl.out _ e.symm; omega)).trans (heap_alloc_new _ _)
  have Hg2w : Hid (g2 = g ∨ ∃ k, g2 = some k ∧ w.heap.size ≤ k) := hide (by
    rcases hg2 with e | ⟨k, e, hk⟩
    · exact .inl e
    · exact .inr ⟨k, e, by rw [alloc_size] at hk; omega⟩)
  have Hs2w : Hid (Stay w w2 (fun k => k = b ∨ some k = g)) := hide ((Hst1.out.alloc _).mono (fun _ _ e => e.elim) |>.trans hs2 (fun _ _ h => h))
  have HF1' := hide hF1'
  have HF2' := hide hF2'
  have Hblk := hide hblk
  have Hp2 := hide hp2
  have Hgg2 := hide hgg2
  clear hF1' hF2' hblk hp2 hg2 hs2 hp1 HF1 HF2 hgg2 Hst1 Hpre
  go_wp2_with fail
  refine (HA.out g2 (l ++ [91]) f A1 c1 _ _ Hp2.out (by simp only [List.length_append, List.length_cons, List.length_nil]; omega) HF1'.out hc1 (fun j hj => Hgg2.out j (by omega) (by omega))).mono ?_
  rintro e w3 ⟨rfl, hn3⟩
  obtain ⟨⟨g3, hp3, hg3⟩, hs3⟩ := hn3
  have hgg3 : ∀ j, w.heap.size < j → j ≤ w1.heap.size → j ≠ b ∧ some j ≠ g3 := fun j hj hj2 => ⟨(Hgg2.out j hj hj2).1, fun e => by
    rcases hg3 with e2 | ⟨q, e2, hq⟩
    · exact (Hgg2.out j hj hj2).2 (e.trans e2)
    · rw [e2] at e; injection e with e; omega⟩
  have hkeep : ∀ j, w.heap.size < j → j ≤ w1.heap.size → ¬ (j = b ∨ some j = g2) := fun j hj hj2 e => by
    have h := Hgg2.out j hj hj2
    rcases e with e | e
    · exact h.1 e
    · exact h.2 e
  have hF2'' := hs3.F HF2'.out (fun j hj => hkeep j (by omega) (by omega))
  have hblk3 := (hs3.block w1.heap.size hz1 (hkeep _ (by omega) (Nat.le_refl _))).trans Hblk.out
  have Hg3w : Hid (g3 = g ∨ ∃ k, g3 = some k ∧ w.heap.size ≤ k) := hide (by
    rcases hg3 with e | ⟨k, e, hk⟩
    · rw [e]; exact Hg2w.out
    · exact .inr ⟨k, e, Nat.le_trans Hs2w.out.size hk⟩)
  have hn3 : WNext b g (l ++ [91] ++ allS xs) (f || failL xs) w w3 := WNext.go Hg2w.out Hs2w.out ⟨⟨g3, hp3, hg3⟩, hs3⟩
  have Hs3w := hide hn3.st
  have HF2'' := hide hF2''
  have Hp3 := hide hp3
  have Hgg3 := hide hgg3
  have e0 : w3.cell? ⟨w1.heap.size, 0, none⟩ = _ := cell_of hblk3 0 _ rfl
  have e1 : w3.cell? ⟨w1.heap.size, 1, none⟩ = _ := cell_of hblk3 1 _ rfl
  have e2 : w3.cell? ⟨w1.heap.size, 2, none⟩ = _ := cell_of hblk3 2 _ rfl
  have e3 : w3.cell? ⟨w1.heap.size, 3, none⟩ = _ := cell_of hblk3 3 _ rfl
  have Hblk3 := hide hblk3
  have hz3 : w2.heap.size ≤ w3.heap.size := hs3.size
  clear hn3 hF2'' hp3 hgg3 hg3 hs3 hkeep Hblk HF1' HF2' Hp2 Hgg2 HA hblk3
  by_cases hnil : en.kind = 3 ∧ en.name = nilN
  · have hend : endS en = [] := by unfold endS; rw [if_pos hnil]
    have hfe := failS_nil en hnil
    obtain ⟨hn1, hn2⟩ := hnil
    have hn2' : en.name.toList = [91, 93] := by rw [hn2, Lib.toList_data]; rfl
    have Htx2 : Hid (TX = 91 :: (allS xs ++ [93])) := hide (by rw [Htx.out, hend, List.append_nil])
    have H92 : Hid (FL = failL xs) := hide (by rw [H9.out, hfe, Bool.or_false])
    clear hend hfe hn2 HT
    go_wp2_with fail
    refine (wByte Hp3.out 93 93 rfl (by simp only [List.length_append, List.length_cons, List.length_nil]; omega)).mono ?_
    rintro e w4 ⟨rfl, hn4⟩
    go_wp2_with fail
    go_end0
    refine ⟨rfl, ?_⟩
    rw [Htx2.out, H92.out, show l ++ 91 :: (allS xs ++ [93]) = l ++ [91] ++ allS xs ++ [93] from by simp]
    exact WNext.go Hg3w.out Hs3w.out hn4
  · have hend : endS en = 124 :: termS en := by unfold endS; rw [if_neg hnil]
    have Htx2 : Hid (TX = 91 :: (allS xs ++ (124 :: (termS en ++ [93])))) := hide (by rw [Htx.out, hend]; simp)
    have hnb : en.kind = 3 → en.name.toList = [91, 93] → False := fun h1 h2 => hnil ⟨h1, str_of h2⟩
    have Hnb := hide hnb
    clear hend hnil hnb
    obtain ⟨ek, en', ei, ea⟩ := en
    simp only at e0 e1 e2 e3 hc2 HF2'' Hblk3 Hnb
    by_cases h3 : ek = 3
    · subst h3
      have hn' : (en'.toList == [91, 93]) = false := by
        have : ¬ en'.toList = [91, 93] := fun h => Hnb.out rfl h
        simpa using this
      have hn2' : (en'.toList != [91, 93]) = true := by simp [bne, hn']
      clear Hnb
      go_wp2_with fail
      refine (wByte Hp3.out 124 124 rfl (by simp only [List.length_append, List.length_cons, List.length_nil]; omega)).mono ?_
      rintro e w4 ⟨rfl, hn4⟩
      obtain ⟨⟨g4, hp4, hg4⟩, hs4⟩ := hn4
      have hgg4 : ∀ j, w.heap.size < j → j ≤ w1.heap.size → j ≠ b ∧ some j ≠ g4 := fun j hj hj2 => ⟨(Hgg3.out j hj hj2).1, fun e => by
        rcases hg4 with e2 | ⟨q, e2, hq⟩
        · exact (Hgg3.out j hj hj2).2 (e.trans e2)
        · rw [e2] at e; injection e with e; omega⟩
      have hkeep : ∀ j, w.heap.size < j → j ≤ w1.heap.size → ¬ (j = b ∨ some j = g3) := fun j hj hj2 e => by
        have h := Hgg3.out j hj hj2
        rcases e with e | e
        · exact h.1 e
        · exact h.2 e
      have hF4 := hs4.F HF2''.out (fun j hj => hkeep j (by omega) (by omega))
      have hblk4 := (hs4.block w1.heap.size (by omega) (hkeep _ (by omega) (Nat.le_refl _))).trans Hblk3.out
      have d0 : w4.cell? ⟨w1.heap.size, 0, none⟩ = _ := cell_of hblk4 0 _ rfl
      have d1 : w4.cell? ⟨w1.heap.size, 1, none⟩ = _ := cell_of hblk4 1 _ rfl
      have d2 : w4.cell? ⟨w1.heap.size, 2, none⟩ = _ := cell_of hblk4 2 _ rfl
      have d3 : w4.cell? ⟨w1.heap.size, 3, none⟩ = _ := cell_of hblk4 3 _ rfl
      have HF4 := hide hF4
      have Hp4 := hide hp4
      have Hgg4 := hide hgg4
      have Hg4 := hide hg4
      have Hs4 := hide hs4
      clear hF4 hp4 hgg4 hg4 hs4 hkeep hblk4 e0 e1 e2 e3
      go_wp2_with fail
      refine (HT.out g4 _ _ A2 c2 _ _ Hp4.out (by simp only [List.length_append, List.length_cons, List.length_nil]; omega) HF4.out hc2 (fun j hj => Hgg4.out j (by omega) (by omega))).mono ?_
      rintro e w5 ⟨rfl, hn5⟩
      have hn5' := WNext.go Hg3w.out Hs3w.out (WNext.go Hg4.out Hs4.out hn5)
      obtain ⟨⟨g5, hp5, hg5⟩, hs5⟩ := hn5'
      have Hp5 := hide hp5
      have Hg5 := hide hg5
      have Hs5 := hide hs5
      clear hp5 hg5 hs5 hn5
      go_wp2_with fail
      refine (wByte Hp5.out 93 93 rfl (by simp only [List.length_append, List.length_cons, List.length_nil]; omega)).mono ?_
      rintro e w6 ⟨rfl, hn6⟩
      go_wp2_with fail
      go_end0
      refine ⟨rfl, ?_⟩
      rw [Htx2.out, H9.out, show l ++ 91 :: (allS xs ++ 124 :: (termS ⟨3, en', ei, ea⟩ ++ [93])) = l ++ [91] ++ allS xs ++ [124] ++ termS ⟨3, en', ei, ea⟩ ++ [93] from by simp, ← Bool.or_assoc]
      exact WNext.go Hg5.out Hs5.out hn6
    · have hk' : (ek == 3) = false := by simp [h3]
      clear Hnb
      go_wp2_with fail
      refine (wByte Hp3.out 124 124 rfl (by simp only [List.length_append, List.length_cons, List.length_nil]; omega)).mono ?_
      rintro e w4 ⟨rfl, hn4⟩
      obtain ⟨⟨g4, hp4, hg4⟩, hs4⟩ := hn4
      have hgg4 : ∀ j, w.heap.size < j → j ≤ w1.heap.size → j ≠ b ∧ some j ≠ g4 := fun j hj hj2 => ⟨(Hgg3.out j hj hj2).1, fun e => by
        rcases hg4 with e2 | ⟨q, e2, hq⟩
        · exact (Hgg3.out j hj hj2).2 (e.trans e2)
        · rw [e2] at e; injection e with e; omega⟩
      have hkeep : ∀ j, w.heap.size < j → j ≤ w1.heap.size → ¬ (j = b ∨ some j = g3) := fun j hj hj2 e => by
        have h := Hgg3.out j hj hj2
        rcases e with e | e
        · exact h.1 e
        · exact h.2 e
      have hF4 := hs4.F HF2''.out (fun j hj => hkeep j (by omega) (by omega))
      have hblk4 := (hs4.block w1.heap.size (by omega) (hkeep _ (by omega) (Nat.le_refl _))).trans Hblk3.out
      have d0 : w4.cell? ⟨w1.heap.size, 0, none⟩ = _ := cell_of hblk4 0 _ rfl
      have d1 : w4.cell? ⟨w1.heap.size, 1, none⟩ = _ := cell_of hblk4 1 _ rfl
      have d2 : w4.cell? ⟨w1.heap.size, 2, none⟩ = _ := cell_of hblk4 2 _ rfl
      have d3 : w4.cell? ⟨w1.heap.size, 3, none⟩ = _ := cell_of hblk4 3 _ rfl
      have HF4 := hide hF4
      have Hp4 := hide hp4
      have Hgg4 := hide hgg4
      have Hg4 := hide hg4
      have Hs4 := hide hs4
      clear hF4 hp4 hgg4 hg4 hs4 hkeep hblk4 e0 e1 e2 e3
      go_wp2_with fail
      refine (HT.out g4 _ _ A2 c2 _ _ Hp4.out (by simp only [List.length_append, List.length_cons, List.length_nil]; omega) HF4.out hc2 (fun j hj => Hgg4.out j (by omega) (by omega))).mono ?_
      rintro e w5 ⟨rfl, hn5⟩
      have hn5' := WNext.go Hg3w.out Hs3w.out (WNext.go Hg4.out Hs4.out hn5)
      obtain ⟨⟨g5, hp5, hg5⟩, hs5⟩ := hn5'
      have Hp5 := hide hp5
      have Hg5 := hide hg5
      have Hs5 := hide hs5
      clear hp5 hg5 hs5 hn5
      go_wp2_with fail
      refine (wByte Hp5.out 93 93 rfl (by simp only [List.length_append, List.length_cons, List.length_nil]; omega)).mono ?_
      rintro e w6 ⟨rfl, hn6⟩
      go_wp2_with fail
      go_end0
      refine ⟨rfl, ?_⟩
      rw [Htx2.out, H9.out, show l ++ 91 :: (allS xs ++ 124 :: (termS ⟨ek, en', ei, ea⟩ ++ [93])) = l ++ [91] ++ allS xs ++ [124] ++ termS ⟨ek, en', ei, ea⟩ ++ [93] from by simp, ← Bool.or_assoc]
      exact WNext.go Hg5.out Hs5.out hn6
end Go.Proofs.YtgidbplaoijalaaGreatRDoor

/- The walks of package write, 6: term. -/
namespace Go.Proofs.YtgidbplaoijalaaGreatRDoor
set_option linter.unusedSimpArgs false
open Go.RowKit Go.Proofs.YtgidbplaoijalaaGreatRDoorW.PrintWords
set_option linter.unusedVariables false

theorem bareS_pos (s : ByteArray) (h : bareS s = true) : 1 ≤ s.size := by
  rcases Nat.eq_zero_or_pos s.size with h0 | h0
  · exfalso
    have : s = ⟨#[]⟩ := by
      rw [← bs_of s]
      have hl : s.data.toList.length = 0 := by rw [size_list]; exact h0
      rw [List.length_eq_zero_iff.1 hl]
      rfl
    rw [this] at h
    revert h
    decide
  · exact h0
theorem functorS_pos (s : ByteArray) : 1 ≤ (functorS s).length := by
  unfold functorS
  split
  · rename_i h
    rw [size_list]
    exact bareS_pos s h
  · unfold quoteS; simp
theorem atomS_pos (s : ByteArray) : 1 ≤ (atomS s).length := by
  unfold atomS
  split
  · rename_i h
    rw [size_list]
    rcases h with rfl | rfl <;> decide
  · exact functorS_pos s
theorem itoa_pos (i : Int) : 1 ≤ (Lib.itoa i).length := by
  rcases Int.lt_or_le i 0 with h | h
  · obtain ⟨u, rfl, hu⟩ : ∃ u : Nat, i = -(u : Int) ∧ 1 ≤ u := ⟨i.natAbs, by omega, by omega⟩
    rw [Lib.itoa_neg u hu]; simp
  · obtain ⟨u, rfl⟩ : ∃ u : Nat, i = (u : Int) := ⟨i.toNat, by omega⟩
    rw [Lib.itoa_nonneg]
    have := Lib.decDigits_length u
    rw [this]
    unfold Lib.nDigits
    split <;> omega

set_option maxHeartbeats 4000000 in
set_option maxRecDepth 100000 in
theorem term_num (kd : Int) (hkd : kd = 1 ∨ kd = 2) (nm : ByteArray) (i : Int) (ts : List Tm) (h0 : -9223372036854775808 ≤ i) (h1 : i ≤ 9223372036854775807) (b : Nat) (g : Option Nat) (l : List UInt8) (f : Bool) (A : Option Addr) (c : Nat) (w : World)
    (hpre : WPre b g l f w) (hlen : l.length ≤ 999990) :
    Calls Tryz.prog 39 #[.pointer (some ⟨b, 0, none⟩), tmV ⟨kd, nm, i, ts⟩ A c] w (WPost b g l (termS ⟨kd, nm, i, ts⟩) f false w) := by
  have hil := Lib.itoa_length_le i h0 h1
  have hip := itoa_pos i
  rw [show tmV ⟨kd, nm, i, ts⟩ A c = .agg #[.int .i64 kd, .string nm, .int .i64 i, .slice A ts.length c] from rfl]
  have Hpre := hide hpre
  have hbl := hpre.lt
  have Hgl := hide hpre.glt
  clear hpre
  rcases hkd with rfl | rfl
  · have htx : termS ⟨1, nm, i, ts⟩ = [95] ++ Lib.itoa i := by rw [termS, if_pos rfl]; rfl
    rw [htx]
    clear htx
    have hfm := fun W hW => fmt_any i h0 h1 W hW
    generalize Lib.itoa i = tx at hil hip hfm ⊢
    have Hfm := hide hfm
    clear hfm
    go_enter Tryz.func39, Tryz.ntmps39
    go_wp2_with fail
    have hp0 : ∀ o, WPre b g l f (w.alloc o) := fun o => Hpre.out.quiet ((Stay.refl _ _).alloc _)
    refine (wByte (hp0 _) 95 95 rfl (by omega)).mono ?_
    rintro e w1 ⟨rfl, hn1⟩
    obtain ⟨⟨g1, hp1, hg1⟩, hs1⟩ := hn1
    have hblk : w1.heap[w.heap.size]? = some (.cells [.int .i64 1, .string nm, .int .i64 i, .slice A ts.length c].toArray 24 (0, 0)) := (hs1.block w.heap.size (by simp) (fun e => by
      rcases e with e | e
      · omega
      · have := Hgl.out _ e.symm; omega)).trans (heap_alloc_new _ _)
    have u2 : w1.cell? ⟨w.heap.size, 2, none⟩ = _ := cell_of hblk 2 _ rfl
    have Hp1 := hide (hp1.quiet ((Stay.refl w1 (fun _ => False)).drew))
    have Hn1 : Hid (Stay w w1 (fun k => k = b ∨ some k = g)) := hide ((((Stay.refl w (fun _ => False)).alloc _).mono (fun _ _ e => e.elim)).trans hs1 (fun _ _ h => h))
    have Hg1 : Hid (g1 = g ∨ ∃ k, g1 = some k ∧ w.heap.size ≤ k) := hide (by
      rcases hg1 with e | ⟨k, e, hk⟩
      · exact .inl e
      · exact .inr ⟨k, e, by rw [alloc_size] at hk; omega⟩)
    clear hp0 hp1 hg1 hs1 hblk
    go_wp2_with fail
    go_region_with (first | (go_at_call 71; refine (Hfm.out _ Hp1.out.laid).mono ?_; rintro e w2 ⟨rfl, hs2⟩) | (go_at_call 70; refine (wStr (Hp1.out.quiet hs2) tx hip (by omega) (by simp only [List.length_append, List.length_cons, List.length_nil]; omega)).mono ?_; rintro e w3 ⟨rfl, hn3⟩))
    all_goals go_wp2_with fail
    all_goals refine bodyPost_ret (results_none rfl _ _ _) rfl ⟨rfl, ?_⟩
    all_goals rw [Bool.or_false, show l ++ 95 :: tx = l ++ [95] ++ tx from by simp]
    all_goals exact WNext.go Hg1.out Hn1.out (WNext.behind (((Stay.refl _ _).drew).trans hs2 (fun _ _ e => e)) hn3)
  · have htx : termS ⟨2, nm, i, ts⟩ = Lib.itoa i := by rw [termS, if_neg (by decide), if_pos rfl]
    rw [htx]
    have hfm := fun W hW => fmt_any i h0 h1 W hW
    clear htx
    generalize Lib.itoa i = tx at hil hip hfm ⊢
    have Hfm := hide hfm
    clear hfm
    go_enter Tryz.func39, Tryz.ntmps39
    go_wp2_with fail
    have hp1 : ∀ o, WPre b g l f ((w.alloc o).drew) := fun o => Hpre.out.quiet (((Stay.refl _ _).alloc _).drew)
    have Hp1 := hide hp1
    clear hp1
    go_region_with (first | (go_at_call 71; refine (Hfm.out _ (Hp1.out _).laid).mono ?_; rintro e w2 ⟨rfl, hs2⟩) | (go_at_call 70; refine (wStr ((Hp1.out _).quiet hs2) tx hip (by omega) (by omega)).mono ?_; rintro e w3 ⟨rfl, hn3⟩))
    all_goals go_wp2_with fail
    all_goals refine bodyPost_ret (results_none rfl _ _ _) rfl ⟨rfl, ?_⟩
    all_goals rw [Bool.or_false]
    all_goals exact WNext.behind ((((Stay.refl _ _).alloc _).drew).trans hs2 (fun _ _ e => e)) hn3
/-- Behind the mark: the writer, the term's box, its arguments. -/
structure Marked (b : Nat) (g : Option Nat) (l : List UInt8) (f : Bool) (kd : Int) (nm : ByteArray) (i : Int) (ts : List Tm) (A : Option Addr) (c : Nat) (ok : Nat → Prop) (w w2 : World) : Prop where
  pre : WPre b g l f w2
  box : w2.heap[w.heap.size]? = some (.cells [.int .i64 kd, .string nm, .int .i64 i, .slice A ts.length c].toArray 24 (0, 0))
  args : Kd.F kTm w2 ok A ts.length ts
  st : Stay w w2 (fun k => k = b ∨ some k = g)

theorem marked_of {b : Nat} {g : Option Nat} {l : List UInt8} {f : Bool} {kd : Int} {nm : ByteArray} {i : Int} {ts : List Tm} {A : Option Addr} {c : Nat} {ok : Nat → Prop} {w w1 : World}
    (hpre : WPre b g l f w) (hF : Kd.F kTm w ok A ts.length ts) (hok : ∀ k, ok k → k ≠ b ∧ some k ≠ g) (f' : Bool)
    (hs1 : Stay (w.alloc (.cells #[.int .i64 kd, .string nm, .int .i64 i, .slice A ts.length c] 24)) w1 (fun _ => False)) :
    Marked b g l f' kd nm i ts A c ok w (w1.setCell ⟨b, 2, none⟩ (.bool f')) := by
  have hst := ((Stay.refl w (fun _ => False)).alloc (.cells #[.int .i64 kd, .string nm, .int .i64 i, .slice A ts.length c] 24)).trans hs1 (S := fun _ => False) (fun _ _ e => e)
  have hp1 := hpre.quiet hst
  obtain ⟨⟨g2, hp2, hg2⟩, hs2⟩ := wMark hp1 f'
  have hset := Stay.set1 w1 b 2 (.bool f')
  have hbl := hpre.lt
  have hgl := hpre.glt
  refine ⟨?_, ?_, ?_, (hst.mono (fun _ _ e => e.elim)).trans hset (fun _ _ e => .inl e)⟩
  · obtain ⟨⟨p, v, hb, hp, ho, hv, h0⟩, hne⟩ := hp1.bld
    refine ⟨⟨⟨p, v, set_of hb 2 (.bool f'), hp, own_move ho (fun k hk => ?_), hv, h0⟩, hne⟩, hp1.b9, hp1.g9, hp1.laid.stay hset (fun k hk e => by have := hp1.b9; omega)⟩
    have hk2 : g = some k := hv.symm.trans hk
    exact hset.block k (hp1.glt k hk2) (fun e => hne (e ▸ hk2))
  · exact (hset.block w.heap.size (by have := hs1.size; rw [alloc_size] at this; omega) (by omega)).trans ((hs1.block w.heap.size (by simp) (fun e => e)).trans (heap_alloc_new _ _))
  · exact hset.F (hst.F hF (fun _ _ e => e)) (fun k hk e => (hok k hk).1 e)

theorem marked_pre {b : Nat} {g : Option Nat} {l : List UInt8} {f : Bool} {w : World} (hpre : WPre b g l f w) (f' : Bool) : WPre b g l f' (w.setCell ⟨b, 2, none⟩ (.bool f')) := by
  have hset := Stay.set1 w b 2 (.bool f')
  obtain ⟨⟨p, v, hb, hp, ho, hv, h0⟩, hne⟩ := hpre.bld
  refine ⟨⟨⟨p, v, set_of hb 2 (.bool f'), hp, own_move ho (fun k hk => ?_), hv, h0⟩, hne⟩, hpre.b9, hpre.g9, hpre.laid.stay hset (fun k hk e => by have := hpre.b9; omega)⟩
  have hk2 : g = some k := hv.symm.trans hk
  exact hset.block k (hpre.glt k hk2) (fun e => hne (e ▸ hk2))
theorem marked_of2 {b : Nat} {g : Option Nat} {l : List UInt8} {f : Bool} {kd : Int} {nm : ByteArray} {i : Int} {ts : List Tm} {A : Option Addr} {c : Nat} {ok : Nat → Prop} {w : World}
    (hpre : WPre b g l f w) (hF : Kd.F kTm w ok A ts.length ts) (hok : ∀ k, ok k → k ≠ b ∧ some k ≠ g) (f' : Bool) :
    Marked b g l f' kd nm i ts A c ok w ((w.setCell ⟨b, 2, none⟩ (.bool f')).alloc (.cells #[.int .i64 kd, .string nm, .int .i64 i, .slice A ts.length c] 24)) := by
  have hset := Stay.set1 w b 2 (.bool f')
  have hsz : (w.setCell ⟨b, 2, none⟩ (.bool f')).heap.size = w.heap.size := by simp [World.setCell]
  refine ⟨(marked_pre hpre f').quiet ((Stay.refl _ _).alloc _), ?_, Kd.F_alloc (hset.F hF (fun k hk e => (hok k hk).1 e)) _, (hset.mono (fun _ _ e => .inl e)).alloc _⟩
  rw [← hsz]
  exact heap_alloc_new _ _

set_option maxHeartbeats 4000000 in
set_option maxRecDepth 100000 in
theorem term_atom (nm : ByteArray) (i : Int) (ts : List Tm) (hnm : nm.size ≤ 64) (b : Nat) (g : Option Nat) (l : List UInt8) (f : Bool) (A : Option Addr) (c : Nat) (ok : Nat → Prop) (w : World)
    (hpre : WPre b g l f w) (hlen : l.length ≤ 999800) (hF : Kd.F kTm w ok A ts.length ts) (hok : ∀ k, ok k → k ≠ b ∧ some k ≠ g) :
    Calls Tryz.prog 39 #[.pointer (some ⟨b, 0, none⟩), tmV ⟨3, nm, i, ts⟩ A c] w (WPost b g l (termS ⟨3, nm, i, ts⟩) f (failS ⟨3, nm, i, ts⟩) w) := by
  have htx : termS ⟨3, nm, i, ts⟩ = atomS nm := by rw [termS, if_neg (by decide), if_neg (by decide), if_pos rfl]
  have hfl : failS ⟨3, nm, i, ts⟩ = badS nm := by rw [failS, if_pos rfl]
  rw [htx, hfl]
  have hal := atomS_length nm
  have hap := atomS_pos nm
  have Hat := hide (fun W hW => atom_any nm W hW (by omega))
  have Hbad := hide (fun W => bad_any nm W (by omega))
  have hmk := fun (f' : Bool) (w1 : World) hs1 => marked_of (kd := 3) (nm := nm) (i := i) (c := c) (w1 := w1) hpre hF hok f' hs1
  generalize atomS nm = tx at hal hap Hat ⊢
  generalize badS nm = B at Hbad ⊢
  rw [show tmV ⟨3, nm, i, ts⟩ A c = .agg #[.int .i64 3, .string nm, .int .i64 i, .slice A ts.length c] from rfl]
  have hc2 := hpre.c2.1
  have hfz := hpre.c2.2
  have hbl := hpre.lt
  have Hmk := hide hmk
  have Hmk2 := hide (marked_of2 (kd := 3) (nm := nm) (i := i) (c := c) hpre hF hok true)
  have Hpre := hide hpre
  clear htx hfl hmk hpre hF hok
  cases f with
  | true =>
    go_enter Tryz.func39, Tryz.ntmps39
    go_wp2_with fail
    refine wp_cap (fun W => Marked b g l true 3 nm i ts A c ok w W) Hmk2.out ?_
    rintro w2 hm
    have u1 : w2.cell? ⟨w.heap.size, 1, none⟩ = _ := cell_of hm.box 1 _ rfl
    have Hp2 := hide (hm.pre.quiet ((Stay.refl w2 (fun _ => False)).drew))
    have Hs2 := hide hm.st
    clear hm
    go_region_with (first | (go_at_call 43; refine (Hat.out _ Hp2.out.laid).mono ?_; rintro e w3 ⟨rfl, hs3⟩) | (go_at_call 70; refine (wStr (Hp2.out.quiet hs3) tx hap (by omega) (by omega)).mono ?_; rintro e w4 ⟨rfl, hn4⟩))
    all_goals go_wp2_with fail
    all_goals first | go_end0 | refine bodyPost_ret (results_none rfl _ _ _) rfl ?_
    all_goals exact ⟨rfl, (by first | exact WNext.go (.inl rfl) Hs2.out (WNext.behind (((Stay.refl _ _).drew).trans hs3 (fun _ _ e => e)) hn4) | (rw [Bool.false_or]; exact WNext.go (.inl rfl) Hs2.out (WNext.behind (((Stay.refl _ _).drew).trans hs3 (fun _ _ e => e)) hn4)) | (rw [Bool.true_or]; exact WNext.go (.inl rfl) Hs2.out (WNext.behind (((Stay.refl _ _).drew).trans hs3 (fun _ _ e => e)) hn4)))⟩
  | false =>
    go_enter Tryz.func39, Tryz.ntmps39
    go_wp2_with fail
    refine (Hbad.out _).mono ?_
    rintro e w1 ⟨rfl, hs1⟩
    have hc3 : w1.cell? ⟨b, 2, none⟩ = some (.bool false) := hs1.cell (by go_simp) (fun e => e)
    have hf3 : w1.frozen? ⟨b, 2, none⟩ = false := (hs1.frozen (by simp; omega) (fun e => e)).trans (by go_simp)
    have hm := Hmk.out (false || B) w1 hs1
    have b0 := cell_of ((hs1.block w.heap.size (by simp) (fun e => e)).trans (heap_alloc_new _ _)) 0 (.int .i64 3) rfl
    have hsz1 := hs1.size
    rw [alloc_size] at hsz1
    have hsz2 : w.heap.size < w1.heap.size := by omega
    have Hm := hide hm
    rw [Bool.false_or] at Hm
    clear hm hs1 hc2 hfz
    go_wp2_with fail
    refine wp_cap (fun W => Marked b g l B 3 nm i ts A c ok w W) Hm.out ?_
    rintro w2 hm
    have u1 : w2.cell? ⟨w.heap.size, 1, none⟩ = _ := cell_of hm.box 1 _ rfl
    have Hp2 := hide (hm.pre.quiet ((Stay.refl w2 (fun _ => False)).drew))
    have Hs2 := hide hm.st
    clear hm
    go_region_with (first | (go_at_call 43; refine (Hat.out _ Hp2.out.laid).mono ?_; rintro e w3 ⟨rfl, hs3⟩) | (go_at_call 70; refine (wStr (Hp2.out.quiet hs3) tx hap (by omega) (by omega)).mono ?_; rintro e w4 ⟨rfl, hn4⟩))
    all_goals go_wp2_with fail
    all_goals first | go_end0 | refine bodyPost_ret (results_none rfl _ _ _) rfl ?_
    all_goals exact ⟨rfl, (by first | exact WNext.go (.inl rfl) Hs2.out (WNext.behind (((Stay.refl _ _).drew).trans hs3 (fun _ _ e => e)) hn4) | (rw [Bool.false_or]; exact WNext.go (.inl rfl) Hs2.out (WNext.behind (((Stay.refl _ _).drew).trans hs3 (fun _ _ e => e)) hn4)) | (rw [Bool.true_or]; exact WNext.go (.inl rfl) Hs2.out (WNext.behind (((Stay.refl _ _).drew).trans hs3 (fun _ _ e => e)) hn4)))⟩
end Go.Proofs.YtgidbplaoijalaaGreatRDoor

/- The walks of package write, 7: term, compound; the three together. (Made by wip/bin/gen_wr7.py.) -/
namespace Go.Proofs.YtgidbplaoijalaaGreatRDoor
set_option linter.unusedSimpArgs false
open Go.RowKit Go.Proofs.YtgidbplaoijalaaGreatRDoorW.PrintWords
set_option linter.unusedVariables false

/-- A writer within term: the row it began with, the row it has, the term's box and arguments. -/
structure MK (b : Nat) (g0 g : Option Nat) (l : List UInt8) (f : Bool) (nm : ByteArray) (i : Int) (ts : List Tm) (A : Option Addr) (c : Nat) (ok : Nat → Prop) (w w2 : World) : Prop where
  pre : WPre b g l f w2
  row : g = g0 ∨ ∃ k, g = some k ∧ w.heap.size < k
  box : w2.heap[w.heap.size]? = some (.cells [.int .i64 4, .string nm, .int .i64 i, .slice A ts.length c].toArray 24 (0, 0))
  args : Kd.F kTm w2 (fun k => ok k ∧ k < w.heap.size) A ts.length ts
  st : Stay w w2 (fun k => k = b ∨ some k = g0)
section
variable {b : Nat} {g0 g : Option Nat} {l l' : List UInt8} {f f' : Bool} {nm : ByteArray} {i : Int} {ts : List Tm} {A : Option Addr} {c : Nat} {ok : Nat → Prop} {w w2 w3 : World}
theorem MK.of (h : Marked b g l f 4 nm i ts A c ok w w2) (hok : ∀ k, ok k → k < w.heap.size ∧ True) : MK b g g l f nm i ts A c ok w w2 :=
  ⟨h.pre, .inl rfl, h.box, Kd.F_mono h.args (fun k hk => ⟨hk, (hok k hk).1⟩), h.st⟩
theorem MK.next (h : MK b g0 g l f nm i ts A c ok w w2) (hb : b < w.heap.size) (hg : ∀ q, g0 = some q → q < w.heap.size) (hok : ∀ k, ok k → k ≠ b ∧ some k ≠ g0) (hn : WNext b g l' f' w2 w3) : ∃ g', MK b g0 g' l' f' nm i ts A c ok w w3 := by
  obtain ⟨⟨g', hp, hg'⟩, hs⟩ := hn
  have hbox := lt_of h.box
  have hfar : ∀ k, k ≤ w.heap.size → k ≠ b → some k ≠ g0 → ¬ (k = b ∨ some k = g) := by
    intro k hk hkb hkg e
    rcases e with e | e
    · exact hkb e
    · rcases h.row with e2 | ⟨q, e2, hq⟩
      · exact hkg (e.trans e2)
      · rw [e2] at e; injection e with e; omega
  refine ⟨g', hp, ?_, ?_, ?_, ?_⟩
  · rcases hg' with e | ⟨q, e, hq⟩
    · rw [e]; exact h.row
    · exact .inr ⟨q, e, by omega⟩
  · exact (hs.block w.heap.size hbox (hfar _ (Nat.le_refl _) (by omega) (fun e => by have := hg _ e.symm; omega))).trans h.box
  · exact hs.F h.args (fun k hk => hfar k (by omega) (hok k hk.1).1 (hok k hk.1).2)
  · refine h.st.trans hs (fun k hk e => ?_)
    rcases e with e | e
    · exact .inl e
    · rcases h.row with e2 | ⟨q, e2, hq⟩
      · exact .inr (e.trans e2)
      · rw [e2] at e; injection e with e; omega
theorem MK.done (h : MK b g0 g l f nm i ts A c ok w w2) : WNext b g0 l f w w2 := by
  refine ⟨⟨g, h.pre, ?_⟩, h.st⟩
  rcases h.row with e | ⟨k, e, hk⟩
  · exact .inl e
  · exact .inr ⟨k, e, by omega⟩
theorem MK.away (h : MK b g0 g l f nm i ts A c ok w w2) (hok : ∀ k, ok k → k ≠ b ∧ some k ≠ g0) : ∀ k, (ok k ∧ k < w.heap.size) → k ≠ b ∧ some k ≠ g := by
  intro k hk
  refine ⟨(hok k hk.1).1, fun e => ?_⟩
  rcases h.row with e2 | ⟨q, e2, hq⟩
  · exact (hok k hk.1).2 (e.trans e2)
  · rw [e2] at e; injection e with e; omega
end

set_option maxHeartbeats 2000000 in
set_option maxRecDepth 100000 in
theorem term_comp {N : Nat} (ha : AllOk N) (hl : ListOk (N + 1)) (nm : ByteArray) (i : Int) (ts : List Tm) (hN : cnt ⟨4, nm, i, ts⟩ ≤ N + 1) (hc2000 : cnt ⟨4, nm, i, ts⟩ ≤ 2000) (hdep : dep ⟨4, nm, i, ts⟩ ≤ 100) (hpl : plainR ⟨4, nm, i, ts⟩ = true) (hrl : rngT ⟨4, nm, i, ts⟩ = true)
    (b : Nat) (g : Option Nat) (l : List UInt8) (f : Bool) (A : Option Addr) (c : Nat) (ok : Nat → Prop) (w : World)
    (hpre : WPre b g l f w) (hlen : l.length + 200 * cnt ⟨4, nm, i, ts⟩ ≤ 1000000) (hF : Kd.F kTm w ok A ts.length ts) (hcap : ts.length ≤ c) (hok : ∀ k, ok k → k ≠ b ∧ some k ≠ g) (hokw : ∀ k, ok k → k < w.heap.size ∧ True) :
    Calls Tryz.prog 39 #[.pointer (some ⟨b, 0, none⟩), tmV ⟨4, nm, i, ts⟩ A c] w (WPost b g l (termS ⟨4, nm, i, ts⟩) f (failS ⟨4, nm, i, ts⟩) w) := by
  have hcnt : cnt ⟨4, nm, i, ts⟩ = cntL ts + 1 := by rw [cnt, if_pos rfl]
  have hdp : dep ⟨4, nm, i, ts⟩ = depL ts + 1 := by rw [dep, if_pos rfl]
  have hpl' := hpl
  have hrl' := hrl
  rw [plainR, if_neg (by decide), if_neg (by decide), if_neg (by decide), if_pos rfl] at hpl
  rw [rngT] at hrl
  simp only [Bool.and_eq_true, decide_eq_true_eq] at hpl hrl
  have hfl : failS ⟨4, nm, i, ts⟩ = (badS nm || failL ts) := by rw [failS, if_neg (by decide), if_pos rfl]
  have hnm : nm.size ≤ 64 := hpl.1.1.1
  have HL := hide (fun hp => hl ⟨4, nm, i, ts⟩ hN hc2000 hdep hpl' hrl' hp b g)
  have HA := hide (ha ts (by omega) (by omega) (by omega) hpl.2 hrl.2 b)
  have hall := hide ((text_length (SizeOf.sizeOf ts)).2 ts (Nat.le_refl _) hpl.2 hrl.2).1
  have Hbad := hide (fun W => bad_any nm W (by omega))
  have hmk := fun (f' : Bool) (w1 : World) hs1 => marked_of (kd := 4) (nm := nm) (i := i) (c := c) (w1 := w1) hpre hF hok f' hs1
  have Hmk := hide hmk
  have Hmk2 := hide (marked_of2 (kd := 4) (nm := nm) (i := i) (c := c) hpre hF hok true)
  have Hok := hide hok
  have Hokw := hide hokw
  have hc2 := hpre.c2.1
  have hfz := hpre.c2.2
  have hbl := hpre.lt
  have Hgl := hide hpre.glt
  have Hpre := hide hpre
  have Hlen : Hid (l.length + 200 * (cntL ts + 1) ≤ 1000000) := hide (by rw [← hcnt]; exact hlen)
  clear hmk hpre hF hok hokw hpl hrl hpl' hrl' ha hl hN hc2000 hdep hlen hcnt hdp
  rw [hfl]
  by_cases hpair : nm = dotN ∧ ts.length = 2
  · have hbd : badS nm = false := by rw [hpair.1]; decide
    have HLp := hide (HL.out ⟨rfl, hpair.1, hpair.2⟩)
    rw [hbd] at Hbad ⊢
    have Hfl : Hid (failS ⟨4, nm, i, ts⟩ = failL ts) := hide (by rw [hfl, hbd, Bool.false_or])
    obtain ⟨hd, hts⟩ := hpair
    rw [show dotN = (⟨#[46]⟩ : ByteArray) from rfl] at hd
    subst hd
    obtain ⟨xa, xb, rfl⟩ : ∃ xa xb, ts = [xa, xb] := by
      match ts, hts with
      | [xa, xb], _ => exact ⟨xa, xb, rfl⟩
    have hcn : cnt ⟨4, ⟨#[46]⟩, i, [xa, xb]⟩ = cntL [xa, xb] + 1 := by rw [cnt, if_pos rfl]
    generalize hTX : termS ⟨4, ⟨#[46]⟩, i, [xa, xb]⟩ = TX at HLp ⊢
    have HLq : Hid (∀ (l : List UInt8) (f : Bool) (ok : Nat → Prop) (w : World), WPre b g l f w → l.length + 200 * (cntL [xa, xb] + 1) ≤ 1000000 → Kd.F kTm w ok A 2 [xa, xb] → 2 ≤ c → (∀ k, ok k → k ≠ b ∧ some k ≠ g) →
      Calls Tryz.prog 72 #[.pointer (some ⟨b, 0, none⟩), .agg #[.int .i64 4, .string ⟨#[46]⟩, .int .i64 i, .slice A 2 c]] w (WPost b g l TX f (failL [xa, xb]) w)) := hide (by
        intro l f ok w h1 h2 h3 h4 h5
        have h := HLp.out l f A c ok w h1 (by rw [hcn]; exact h2) h3 h4 h5
        rw [Hfl.out] at h
        exact h)
    clear HL HA hall hfl hbd HLp hcn hTX Hfl hts hnm
    generalize failL [xa, xb] = L at HLq ⊢
    rw [show tmV ⟨4, ⟨#[46]⟩, i, [xa, xb]⟩ A c = .agg #[.int .i64 4, .string ⟨#[46]⟩, .int .i64 i, .slice A 2 c] from rfl]
    cases f with
    | true =>
      go_enter Tryz.func39, Tryz.ntmps39
      go_wp2_with fail
      have hmm := Hmk2.out
      refine (HLq.out l true _ _ hmm.pre Hlen.out hmm.args hcap Hok.out).mono ?_
      rintro e w3 ⟨rfl, hn3⟩
      have hdn := WNext.go (.inl rfl) hmm.st hn3
      go_wp2_with fail
      first | go_end0 | refine bodyPost_ret (results_none rfl _ _ _) rfl ?_
      refine ⟨rfl, ?_⟩
      simpa using hdn
    | false =>
      go_enter Tryz.func39, Tryz.ntmps39
      go_wp2_with fail
      refine (Hbad.out _).mono ?_
      rintro e w1 ⟨rfl, hs1⟩
      have hc3 : w1.cell? ⟨b, 2, none⟩ = some (.bool false) := hs1.cell (by go_simp) (fun e => e)
      have hf3 : w1.frozen? ⟨b, 2, none⟩ = false := (hs1.frozen (by simp; omega) (fun e => e)).trans (by go_simp)
      have hm := Hmk.out false w1 hs1
      have hb1 := (hs1.block w.heap.size (by simp) (fun e => e)).trans (heap_alloc_new w (.cells #[.int .i64 4, .string ⟨#[46]⟩, .int .i64 i, .slice A 2 c] 24))
      have b0 := cell_of hb1 0 (.int .i64 4) rfl
      have b1 := cell_of hb1 1 (.string ⟨#[46]⟩) rfl
      have b2 := cell_of hb1 2 (.int .i64 i) rfl
      have b3 := cell_of hb1 3 (.slice A 2 c) rfl
      have hsz1 := hs1.size
      rw [alloc_size] at hsz1
      have hsz2 : w.heap.size < w1.heap.size := by omega
      have Hm := hide hm
      clear hm hs1 hc2 hfz hb1
      go_wp2_with fail
      have hmm := Hm.out
      refine (HLq.out l false _ _ hmm.pre Hlen.out hmm.args hcap Hok.out).mono ?_
      rintro e w3 ⟨rfl, hn3⟩
      have hdn := WNext.go (.inl rfl) hmm.st hn3
      go_wp2_with fail
      first | go_end0 | refine bodyPost_ret (results_none rfl _ _ _) rfl ?_
      refine ⟨rfl, ?_⟩
      simpa using hdn
  · have htx : termS ⟨4, nm, i, ts⟩ = functorS nm ++ (40 :: (allS ts ++ [41])) := by rw [termS4, if_neg hpair]
    rw [htx]
    have hal := functorS_length nm
    have hap := functorS_pos nm
    have Hat := hide (fun W hW => functor_any nm W hW (by omega))
    generalize functorS nm = tx at hal hap Hat ⊢
    generalize allS ts = ta at HA hall ⊢
    generalize failL ts = L at HA ⊢
    clear HL htx hfl
    by_cases hd : nm = dotN
    · have hn2 : ((ts.length : Int) == 2) = false := by
        have : ¬ (ts.length : Int) = 2 := fun h => hpair ⟨hd, by omega⟩
        simp [this]
      clear hpair
      rw [show dotN = (⟨#[46]⟩ : ByteArray) from rfl] at hd
      subst hd
      generalize badS ⟨#[46]⟩ = B at Hbad ⊢
      rw [show tmV ⟨4, ⟨#[46]⟩, i, ts⟩ A c = .agg #[.int .i64 4, .string ⟨#[46]⟩, .int .i64 i, .slice A ts.length c] from rfl]
      cases f with
      | true =>
        go_enter Tryz.func39, Tryz.ntmps39
        go_wp2_with fail
        refine wp_cap (fun W => MK b g g l true ⟨#[46]⟩ i ts A c ok w W) (MK.of Hmk2.out Hokw.out) ?_
        rintro w2 hm
        have u1 : w2.cell? ⟨w.heap.size, 1, none⟩ = _ := cell_of hm.box 1 _ rfl
        have Hp2 := hide (hm.pre.quiet ((Stay.refl w2 (fun _ => False)).drew))
        have Hm2 := hide hm
        have hll := Hlen.out
        have hla := hall.out
        clear hm
        go_region_with (first | (go_at_call 73; refine (Hat.out _ Hp2.out.laid).mono ?_; rintro e w3 ⟨rfl, hs3⟩) | (go_at_call 70; refine (wStr (Hp2.out.quiet hs3) tx hap (by omega) (by omega)).mono ?_; rintro e w4 ⟨rfl, hn4⟩))
        all_goals
          obtain ⟨g4, hm4⟩ := Hm2.out.next hbl Hgl.out Hok.out (WNext.behind (((Stay.refl _ _).drew).trans hs3 (fun _ _ e => e)) hn4)
          have Hm4 := hide hm4
          clear hm4 hn4 hs3
          go_wp2_with fail
          refine (wByte Hm4.out.pre 40 40 rfl (by simp only [List.length_append]; omega)).mono ?_
          rintro e w5 ⟨rfl, hn5⟩
          obtain ⟨g5, hm5⟩ := Hm4.out.next hbl Hgl.out Hok.out hn5
          have v3 : w5.cell? ⟨w.heap.size, 3, none⟩ = _ := cell_of hm5.box 3 _ rfl
          have Hm5 := hide hm5
          clear hm5 hn5
          go_wp2_with fail
          refine (HA.out g5 _ _ A c _ _ Hm5.out.pre (by simp only [List.length_append, List.length_cons, List.length_nil]; omega) Hm5.out.args hcap (Hm5.out.away Hok.out)).mono ?_
          rintro e w6 ⟨rfl, hn6⟩
          obtain ⟨g6, hm6⟩ := Hm5.out.next hbl Hgl.out Hok.out hn6
          have Hm6 := hide hm6
          clear hm6 hn6
          go_wp2_with fail
          refine (wByte Hm6.out.pre 41 41 rfl (by simp only [List.length_append, List.length_cons, List.length_nil]; omega)).mono ?_
          rintro e w7 ⟨rfl, hn7⟩
          obtain ⟨g7, hm7⟩ := Hm6.out.next hbl Hgl.out Hok.out hn7
          have hdn := hm7.done
          go_wp2_with fail
          first | go_end0 | refine bodyPost_ret (results_none rfl _ _ _) rfl ?_
          refine ⟨rfl, ?_⟩
          rw [show l ++ (tx ++ 40 :: (ta ++ [41])) = l ++ tx ++ [40] ++ ta ++ [41] from by simp]
          simpa [Bool.or_assoc] using hdn
      | false =>
        go_enter Tryz.func39, Tryz.ntmps39
        go_wp2_with fail
        refine (Hbad.out _).mono ?_
        rintro e w1 ⟨rfl, hs1⟩
        have hc3 : w1.cell? ⟨b, 2, none⟩ = some (.bool false) := hs1.cell (by go_simp) (fun e => e)
        have hf3 : w1.frozen? ⟨b, 2, none⟩ = false := (hs1.frozen (by simp; omega) (fun e => e)).trans (by go_simp)
        have hm := Hmk.out B w1 hs1
        have hb1 := (hs1.block w.heap.size (by simp) (fun e => e)).trans (heap_alloc_new w (.cells #[.int .i64 4, .string ⟨#[46]⟩, .int .i64 i, .slice A ts.length c] 24))
        have b0 := cell_of hb1 0 (.int .i64 4) rfl
        have b1 := cell_of hb1 1 (.string ⟨#[46]⟩) rfl
        have b2 := cell_of hb1 2 (.int .i64 i) rfl
        have b3 := cell_of hb1 3 (.slice A ts.length c) rfl
        have hsz1 := hs1.size
        rw [alloc_size] at hsz1
        have hsz2 : w.heap.size < w1.heap.size := by omega
        have Hm := hide hm
        clear hm hs1 hc2 hfz hb1
        go_wp2_with fail
        refine wp_cap (fun W => MK b g g l B ⟨#[46]⟩ i ts A c ok w W) (MK.of Hm.out Hokw.out) ?_
        rintro w2 hm
        have u1 : w2.cell? ⟨w.heap.size, 1, none⟩ = _ := cell_of hm.box 1 _ rfl
        have Hp2 := hide (hm.pre.quiet ((Stay.refl w2 (fun _ => False)).drew))
        have Hm2 := hide hm
        have hll := Hlen.out
        have hla := hall.out
        clear hm
        go_region_with (first | (go_at_call 73; refine (Hat.out _ Hp2.out.laid).mono ?_; rintro e w3 ⟨rfl, hs3⟩) | (go_at_call 70; refine (wStr (Hp2.out.quiet hs3) tx hap (by omega) (by omega)).mono ?_; rintro e w4 ⟨rfl, hn4⟩))
        all_goals
          obtain ⟨g4, hm4⟩ := Hm2.out.next hbl Hgl.out Hok.out (WNext.behind (((Stay.refl _ _).drew).trans hs3 (fun _ _ e => e)) hn4)
          have Hm4 := hide hm4
          clear hm4 hn4 hs3
          go_wp2_with fail
          refine (wByte Hm4.out.pre 40 40 rfl (by simp only [List.length_append]; omega)).mono ?_
          rintro e w5 ⟨rfl, hn5⟩
          obtain ⟨g5, hm5⟩ := Hm4.out.next hbl Hgl.out Hok.out hn5
          have v3 : w5.cell? ⟨w.heap.size, 3, none⟩ = _ := cell_of hm5.box 3 _ rfl
          have Hm5 := hide hm5
          clear hm5 hn5
          go_wp2_with fail
          refine (HA.out g5 _ _ A c _ _ Hm5.out.pre (by simp only [List.length_append, List.length_cons, List.length_nil]; omega) Hm5.out.args hcap (Hm5.out.away Hok.out)).mono ?_
          rintro e w6 ⟨rfl, hn6⟩
          obtain ⟨g6, hm6⟩ := Hm5.out.next hbl Hgl.out Hok.out hn6
          have Hm6 := hide hm6
          clear hm6 hn6
          go_wp2_with fail
          refine (wByte Hm6.out.pre 41 41 rfl (by simp only [List.length_append, List.length_cons, List.length_nil]; omega)).mono ?_
          rintro e w7 ⟨rfl, hn7⟩
          obtain ⟨g7, hm7⟩ := Hm6.out.next hbl Hgl.out Hok.out hn7
          have hdn := hm7.done
          go_wp2_with fail
          first | go_end0 | refine bodyPost_ret (results_none rfl _ _ _) rfl ?_
          refine ⟨rfl, ?_⟩
          rw [show l ++ (tx ++ 40 :: (ta ++ [41])) = l ++ tx ++ [40] ++ ta ++ [41] from by simp]
          simpa [Bool.or_assoc] using hdn
    · have hn2 : (nm.toList == [46]) = false := by
        have : ¬ nm.toList = [46] := fun h => hd (str_of h)
        simpa using this
      clear hpair hd
      generalize badS nm = B at Hbad ⊢
      rw [show tmV ⟨4, nm, i, ts⟩ A c = .agg #[.int .i64 4, .string nm, .int .i64 i, .slice A ts.length c] from rfl]
      cases f with
      | true =>
        go_enter Tryz.func39, Tryz.ntmps39
        go_wp2_with fail
        refine wp_cap (fun W => MK b g g l true nm i ts A c ok w W) (MK.of Hmk2.out Hokw.out) ?_
        rintro w2 hm
        have u1 : w2.cell? ⟨w.heap.size, 1, none⟩ = _ := cell_of hm.box 1 _ rfl
        have Hp2 := hide (hm.pre.quiet ((Stay.refl w2 (fun _ => False)).drew))
        have Hm2 := hide hm
        have hll := Hlen.out
        have hla := hall.out
        clear hm
        go_region_with (first | (go_at_call 73; refine (Hat.out _ Hp2.out.laid).mono ?_; rintro e w3 ⟨rfl, hs3⟩) | (go_at_call 70; refine (wStr (Hp2.out.quiet hs3) tx hap (by omega) (by omega)).mono ?_; rintro e w4 ⟨rfl, hn4⟩))
        all_goals
          obtain ⟨g4, hm4⟩ := Hm2.out.next hbl Hgl.out Hok.out (WNext.behind (((Stay.refl _ _).drew).trans hs3 (fun _ _ e => e)) hn4)
          have Hm4 := hide hm4
          clear hm4 hn4 hs3
          go_wp2_with fail
          refine (wByte Hm4.out.pre 40 40 rfl (by simp only [List.length_append]; omega)).mono ?_
          rintro e w5 ⟨rfl, hn5⟩
          obtain ⟨g5, hm5⟩ := Hm4.out.next hbl Hgl.out Hok.out hn5
          have v3 : w5.cell? ⟨w.heap.size, 3, none⟩ = _ := cell_of hm5.box 3 _ rfl
          have Hm5 := hide hm5
          clear hm5 hn5
          go_wp2_with fail
          refine (HA.out g5 _ _ A c _ _ Hm5.out.pre (by simp only [List.length_append, List.length_cons, List.length_nil]; omega) Hm5.out.args hcap (Hm5.out.away Hok.out)).mono ?_
          rintro e w6 ⟨rfl, hn6⟩
          obtain ⟨g6, hm6⟩ := Hm5.out.next hbl Hgl.out Hok.out hn6
          have Hm6 := hide hm6
          clear hm6 hn6
          go_wp2_with fail
          refine (wByte Hm6.out.pre 41 41 rfl (by simp only [List.length_append, List.length_cons, List.length_nil]; omega)).mono ?_
          rintro e w7 ⟨rfl, hn7⟩
          obtain ⟨g7, hm7⟩ := Hm6.out.next hbl Hgl.out Hok.out hn7
          have hdn := hm7.done
          go_wp2_with fail
          first | go_end0 | refine bodyPost_ret (results_none rfl _ _ _) rfl ?_
          refine ⟨rfl, ?_⟩
          rw [show l ++ (tx ++ 40 :: (ta ++ [41])) = l ++ tx ++ [40] ++ ta ++ [41] from by simp]
          simpa [Bool.or_assoc] using hdn
      | false =>
        go_enter Tryz.func39, Tryz.ntmps39
        go_wp2_with fail
        refine (Hbad.out _).mono ?_
        rintro e w1 ⟨rfl, hs1⟩
        have hc3 : w1.cell? ⟨b, 2, none⟩ = some (.bool false) := hs1.cell (by go_simp) (fun e => e)
        have hf3 : w1.frozen? ⟨b, 2, none⟩ = false := (hs1.frozen (by simp; omega) (fun e => e)).trans (by go_simp)
        have hm := Hmk.out B w1 hs1
        have hb1 := (hs1.block w.heap.size (by simp) (fun e => e)).trans (heap_alloc_new w (.cells #[.int .i64 4, .string nm, .int .i64 i, .slice A ts.length c] 24))
        have b0 := cell_of hb1 0 (.int .i64 4) rfl
        have b1 := cell_of hb1 1 (.string nm) rfl
        have b2 := cell_of hb1 2 (.int .i64 i) rfl
        have b3 := cell_of hb1 3 (.slice A ts.length c) rfl
        have hsz1 := hs1.size
        rw [alloc_size] at hsz1
        have hsz2 : w.heap.size < w1.heap.size := by omega
        have Hm := hide hm
        clear hm hs1 hc2 hfz hb1
        go_wp2_with fail
        refine wp_cap (fun W => MK b g g l B nm i ts A c ok w W) (MK.of Hm.out Hokw.out) ?_
        rintro w2 hm
        have u1 : w2.cell? ⟨w.heap.size, 1, none⟩ = _ := cell_of hm.box 1 _ rfl
        have Hp2 := hide (hm.pre.quiet ((Stay.refl w2 (fun _ => False)).drew))
        have Hm2 := hide hm
        have hll := Hlen.out
        have hla := hall.out
        clear hm
        go_region_with (first | (go_at_call 73; refine (Hat.out _ Hp2.out.laid).mono ?_; rintro e w3 ⟨rfl, hs3⟩) | (go_at_call 70; refine (wStr (Hp2.out.quiet hs3) tx hap (by omega) (by omega)).mono ?_; rintro e w4 ⟨rfl, hn4⟩))
        all_goals
          obtain ⟨g4, hm4⟩ := Hm2.out.next hbl Hgl.out Hok.out (WNext.behind (((Stay.refl _ _).drew).trans hs3 (fun _ _ e => e)) hn4)
          have Hm4 := hide hm4
          clear hm4 hn4 hs3
          go_wp2_with fail
          refine (wByte Hm4.out.pre 40 40 rfl (by simp only [List.length_append]; omega)).mono ?_
          rintro e w5 ⟨rfl, hn5⟩
          obtain ⟨g5, hm5⟩ := Hm4.out.next hbl Hgl.out Hok.out hn5
          have v3 : w5.cell? ⟨w.heap.size, 3, none⟩ = _ := cell_of hm5.box 3 _ rfl
          have Hm5 := hide hm5
          clear hm5 hn5
          go_wp2_with fail
          refine (HA.out g5 _ _ A c _ _ Hm5.out.pre (by simp only [List.length_append, List.length_cons, List.length_nil]; omega) Hm5.out.args hcap (Hm5.out.away Hok.out)).mono ?_
          rintro e w6 ⟨rfl, hn6⟩
          obtain ⟨g6, hm6⟩ := Hm5.out.next hbl Hgl.out Hok.out hn6
          have Hm6 := hide hm6
          clear hm6 hn6
          go_wp2_with fail
          refine (wByte Hm6.out.pre 41 41 rfl (by simp only [List.length_append, List.length_cons, List.length_nil]; omega)).mono ?_
          rintro e w7 ⟨rfl, hn7⟩
          obtain ⟨g7, hm7⟩ := Hm6.out.next hbl Hgl.out Hok.out hn7
          have hdn := hm7.done
          go_wp2_with fail
          first | go_end0 | refine bodyPost_ret (results_none rfl _ _ _) rfl ?_
          refine ⟨rfl, ?_⟩
          rw [show l ++ (tx ++ 40 :: (ta ++ [41])) = l ++ tx ++ [40] ++ ta ++ [41] from by simp]
          simpa [Bool.or_assoc] using hdn

/-- term, whatever the right term. -/
theorem term_ok (N : Nat) : TermOk N := by
  induction N with
  | zero => intro t h; have := cnt_pos t; omega
  | succ N ih =>
    have ha := all_step ih
    have hl := list_step ih ha
    intro t hN h2000 hdep hpl hrl b g l f A c ok w hpre hlen hF hcap hok
    obtain ⟨k, nm, i, ts⟩ := t
    have hpl' := hpl
    have hrl' := hrl
    rw [plainR] at hpl'
    rw [rngT] at hrl'
    simp only [Bool.and_eq_true, decide_eq_true_eq] at hrl'
    have hcp := cnt_pos ⟨k, nm, i, ts⟩
    by_cases h1 : k = 1
    · have hf : failS ⟨k, nm, i, ts⟩ = false := by subst h1; rfl
      rw [hf]
      exact term_num k (.inl h1) nm i ts hrl'.1.1 hrl'.1.2 b g l f A c w hpre (by omega)
    by_cases h2 : k = 2
    · have hf : failS ⟨k, nm, i, ts⟩ = false := by subst h2; rfl
      rw [hf]
      exact term_num k (.inr h2) nm i ts hrl'.1.1 hrl'.1.2 b g l f A c w hpre (by omega)
    rw [if_neg h1, if_neg h2] at hpl'
    by_cases h3 : k = 3
    · subst h3
      rw [if_pos rfl] at hpl'
      exact term_atom nm i ts (by simpa using hpl') b g l f A c ok w hpre (by omega) hF hok
    rw [if_neg h3] at hpl'
    by_cases h4 : k = 4
    · subst h4
      exact term_comp ha hl nm i ts hN h2000 hdep hpl hrl b g l f A c _ w hpre hlen (Kd.F_bound hF) hcap (fun k hk => hok k hk.1) (fun k hk => ⟨hk.2, trivial⟩)
    · rw [if_neg h4] at hpl'
      cases hpl'
end Go.Proofs.YtgidbplaoijalaaGreatRDoor

/- The walk of write.Text. -/
namespace Go.Proofs.YtgidbplaoijalaaGreatRDoor
set_option linter.unusedSimpArgs false
open Go.RowKit Go.Proofs.YtgidbplaoijalaaGreatRDoorW.PrintWords
set_option linter.unusedVariables false

/-- write.Text. -/
def textR (t : Tm) : List UInt8 × Int := if rightB t = true then (if failS t = true then ([], 80) else (termS t, 0)) else ([], 70)

theorem termS_pos (t : Tm) (hp : plainR t = true) : 1 ≤ (termS t).length := by
  obtain ⟨k, nm, i, ts⟩ := t
  rw [plainR] at hp
  rw [termS]
  split
  · simp
  · split
    · exact itoa_pos i
    · split
      · exact atomS_pos nm
      · split
        · split
          · simp
          · simp; omega
        · rename_i h1 h2 h3 h4
          rw [if_neg h1, if_neg h2, if_neg h3, if_neg h4] at hp
          cases hp

set_option maxHeartbeats 2000000 in
set_option maxRecDepth 100000 in
theorem text_any (t : Tm) (A : Option Addr) (c : Nat) (ok : Nat → Prop) (w : World) (hL : Laid w) (hrng : rngT t = true) (hF : Kd.F kTm w ok A t.args.length t.args) (hc : t.args.length ≤ c) :
    Calls Tryz.prog 13 #[tmV t A c] w fun e w' => e = .returned (.tuple #[.string (bs (textR t).1), .int .i64 (textR t).2]) ∧ Stay w w' (fun _ => False) := by
  have hck := fun o => check_any t A c ok (w.alloc o) (Kd.F_alloc hF o) hc
  have hR : textR t = _ := rfl
  conv at hR => rhs; unfold textR
  generalize textR t = R at hR ⊢
  have hterm : rightB t = true → ∀ (b : Nat) (g : Option Nat) (l : List UInt8) (f : Bool) (ok : Nat → Prop) (w : World), WPre b g l f w → l.length ≤ 1000 → Kd.F kTm w ok A t.args.length t.args → (∀ k, ok k → k ≠ b ∧ some k ≠ g) →
      Calls Tryz.prog 39 #[.pointer (some ⟨b, 0, none⟩), tmV t A c] w (WPost b g l (termS t) f (failS t) w) := by
    intro hr b g l f ok w h1 h2 h3 h4
    obtain ⟨r1, r2, r3⟩ := (rightB_iff t).1 hr
    exact term_ok (cnt t) t (Nat.le_refl _) r2 r3 r1 hrng b g l f A c ok w h1 (by omega) h3 hc h4
  generalize hB : rightB t = B at hR hck hterm
  generalize failS t = FL at hR hterm
  have htl : 1 ≤ (termS t).length ∨ B = false := by
    cases B with
    | false => exact .inr rfl
    | true => exact .inl (termS_pos t ((rightB_iff t).1 hB).1)
  generalize termS t = TX at hR hterm htl
  have HR := hide hR
  have Hck := hide hck
  have Hterm := hide hterm
  have HF := hide (Kd.F_bound hF)
  have HL := hide hL
  have Htl := hide htl
  clear hR hck hterm hF hL htl hrng hB
  obtain ⟨kd, nm, i, ts⟩ := t
  simp only at HF hc
  cases B with
  | false =>
    rw [if_neg (by decide)] at HR
    rw [show tmV ⟨kd, nm, i, ts⟩ A c = .agg #[.int .i64 kd, .string nm, .int .i64 i, .slice A ts.length c] from rfl] at *
    go_enter Tryz.func13, Tryz.ntmps13
    go_wp2_with fail
    refine (Hck.out _).mono ?_
    rintro e w1 ⟨rfl, hs1⟩
    rw [if_neg (by simp)]
    have hst1 : Stay w w1 (fun _ => False) := ((Stay.refl _ _).alloc _).trans hs1 (fun _ _ e => e)
    clear hs1
    go_wp2_with fail
    go_ret2
    exact ⟨by rw [HR.out]; rfl, hst1⟩
  | true =>
    rw [if_pos rfl] at HR
    have Hterm := hide (Hterm.out rfl)
    rw [show tmV ⟨kd, nm, i, ts⟩ A c = .agg #[.int .i64 kd, .string nm, .int .i64 i, .slice A ts.length c] from rfl] at *
    go_enter Tryz.func13, Tryz.ntmps13
    go_wp2_with fail
    refine (Hck.out _).mono ?_
    rintro e w1 ⟨rfl, hs1⟩
    simp only [if_true]
    have hst1 : Stay w w1 (fun _ => False) := ((Stay.refl _ _).alloc _).trans hs1 (fun _ _ e => e)
    have hblk : TB w.heap.size kd nm i (.slice A ts.length c) w1 := (hs1.block w.heap.size (by simp) (fun e => e)).trans (heap_alloc_new _ _)
    have a0 : w1.cell? ⟨w.heap.size, 0, none⟩ = _ := cell_of hblk 0 _ rfl
    have a1 : w1.cell? ⟨w.heap.size, 1, none⟩ = _ := cell_of hblk 1 _ rfl
    have a2 : w1.cell? ⟨w.heap.size, 2, none⟩ = _ := cell_of hblk 2 _ rfl
    have a3 : w1.cell? ⟨w.heap.size, 3, none⟩ = _ := cell_of hblk 3 _ rfl
    have hsz1 : w.heap.size < w1.heap.size := lt_of hblk
    have Hst1 := hide hst1
    clear hs1 hblk hst1
    go_wp2_with fail
    have hL1 := (HL.out.stay Hst1.out (fun _ _ e => e)).stay ((Stay.refl w1 (fun _ => False)).alloc (.cells #[.pointer none, .slice none 0 0, .bool false] 75)) (fun _ _ e => e)
    have hpre0 : WPre w1.heap.size none [] false (w1.alloc (.cells #[.pointer none, .slice none 0 0, .bool false] 75)) :=
      ⟨Bld.fresh 75 [.bool false] w1, by have := HL.out.nine; omega, by simp, hL1⟩
    have hF1 := Kd.F_alloc (Hst1.out.F HF.out (fun _ _ e => e)) (.cells #[.pointer none, .slice none 0 0, .bool false] 75)
    refine (Hterm.out trivial w1.heap.size none [] false _ _ hpre0 (by simp) hF1 (fun k hk => ⟨by omega, by simp⟩)).mono ?_
    rintro e w2 ⟨rfl, hn⟩
    obtain ⟨⟨g', hp, hg⟩, hs2⟩ := hn
    rw [List.nil_append, Bool.false_or] at hp
    have hst2 : Stay w w2 (fun _ => False) := (Hst1.out.alloc _).trans hs2 (fun j hj e => by
      rcases e with e | e
      · omega
      · cases e)
    have d2 := hp.c2.1
    have hg9 : ∀ j, some j = g' → w.heap.size ≤ j := fun j e => by
      rcases hg with e2 | ⟨k, e2, hk⟩
      · rw [e2] at e; cases e
      · rw [e2] at e; injection e with e; rw [alloc_size] at hk; omega
    have Hp := hide hp
    have Hst2 := hide hst2
    have Hg9 := hide hg9
    clear hp hs2 hst2 hg hg9 hpre0 hF1 hL1 a0 a1 a2 a3
    cases FL with
    | true =>
      go_wp2_with fail
      go_ret2
      exact ⟨by rw [HR.out]; rfl, Hst2.out⟩
    | false =>
      go_wp2_with fail
      refine (string_any bldT_writer [.bool false] rfl w1.heap.size g' TX _ Hp.out.bld (by
        rcases Htl.out with h | h
        · intro e; rw [e] at h; simp at h
        · cases h)).mono ?_
      rintro e w3 ⟨rfl, hs3⟩
      go_wp2_with fail
      go_ret2
      exact ⟨by rw [HR.out]; rfl, Hst2.out.trans hs3 (fun j hj e => by have := Hg9.out j e; omega)⟩
end Go.Proofs.YtgidbplaoijalaaGreatRDoor

/- The walks of package pythiaref07: sign, Order, Same. -/
namespace Go.Proofs.YtgidbplaoijalaaGreatRDoor
set_option linter.unusedSimpArgs false
open Go.RowKit Go.Proofs.YtgidbplaoijalaaGreatRDoorW.PrintWords
set_option linter.unusedVariables false

mutual
/-- Are terms the same? -/
def sameT : Tm → Tm → Bool
  | ⟨k, nm, i, ts⟩, u => decide (k = u.kind) && (if k ≤ 2 then decide (i = u.int) else if k = 4 then decide (ts.length = u.args.length) && (decide (nm = u.name) && sameL ts u.args) else decide (nm = u.name))
def sameL : List Tm → List Tm → Bool
  | t :: ts, u :: us => sameT t u && sameL ts us
  | _, _ => true
end
theorem sameT_eq (t u : Tm) : sameT t u = (decide (t.kind = u.kind) && (if t.kind ≤ 2 then decide (t.int = u.int) else if t.kind = 4 then decide (t.args.length = u.args.length) && (decide (t.name = u.name) && sameL t.args u.args) else decide (t.name = u.name))) := by
  obtain ⟨k, nm, i, ts⟩ := t
  rw [sameT]

set_option maxHeartbeats 400000 in
theorem sgn_any (p q : Bool) (w : World) : Calls Tryz.prog 75 #[.bool p, .bool q] w fun e w' => e = .returned (.int .i64 (if p = true then -1 else if q = true then 1 else 0)) ∧ w = w' := by
  cases p <;> cases q <;>
  · go_enter Tryz.func75, Tryz.ntmps75
    go_wp2_with fail
    go_ret
    exact ⟨rfl, rfl⟩

def OrdPost (s : Bool) (w : World) (e : Ending) (w' : World) : Prop := ∃ r : Int, e = .returned (.int .i64 r) ∧ (r = 0 ↔ s = true) ∧ Stay w w' (fun _ => False)

set_option maxHeartbeats 4000000 in
set_option maxRecDepth 100000 in
theorem order_step {N : Nat} (ih : ∀ t : Tm, SizeOf.sizeOf t ≤ N → ∀ (u : Tm) (A B : Option Addr) (c d : Nat) (ok ok' : Nat → Prop) (w : World), Kd.F kTm w ok A t.args.length t.args → Kd.F kTm w ok' B u.args.length u.args →
      Calls Tryz.prog 41 #[tmV t A c, tmV u B d] w (OrdPost (sameT t u) w))
    (t : Tm) (hz : SizeOf.sizeOf t ≤ N + 1) (u : Tm) (A B : Option Addr) (c d : Nat) (ok ok' : Nat → Prop) (w : World) (hF : Kd.F kTm w ok A t.args.length t.args) (hG : Kd.F kTm w ok' B u.args.length u.args) :
    Calls Tryz.prog 41 #[tmV t A c, tmV u B d] w (OrdPost (sameT t u) w) := by
  have hs := sameT_eq t u
  obtain ⟨k, nm, i, ts⟩ := t
  obtain ⟨k', nm', i', us⟩ := u
  simp only at hs hF hG
  generalize sameT ⟨k, nm, i, ts⟩ ⟨k', nm', i', us⟩ = R at hs ⊢
  have Hs := hide hs
  have HF := hide hF
  have HG := hide hG
  have HI := hide ih
  have Hz : Hid (SizeOf.sizeOf ts ≤ N) := hide (by simp at hz; omega)
  clear hs hF hG ih hz
  rw [show tmV ⟨k, nm, i, ts⟩ A c = .agg #[.int .i64 k, .string nm, .int .i64 i, .slice A ts.length c] from rfl, show tmV ⟨k', nm', i', us⟩ B d = .agg #[.int .i64 k', .string nm', .int .i64 i', .slice B us.length d] from rfl]
  have hst2 : ∀ o o', Stay w ((w.alloc o).alloc o') (fun _ => False) := fun o o' => ((Stay.refl _ _).alloc o).alloc o'
  have Hst := hide hst2
  clear hst2
  by_cases hk : k = k'
  · subst hk
    by_cases h2 : k ≤ 2
    · rw [if_pos h2] at Hs
      by_cases hi1 : i < i'
      · have hn : R = false := by rw [Hs.out]; simp; omega
        subst hn
        clear Hs
        go_enter Tryz.func41, Tryz.ntmps41
        go_wp2_with fail
        refine (sgn_any _ _ _).mono ?_
        rintro e w3 ⟨rfl, rfl⟩
        go_wp2_with fail
        go_ret
        exact ⟨_, rfl, by simp, Hst.out _ _⟩
      · by_cases hi2 : i' < i
        · have hn : R = false := by rw [Hs.out]; simp; omega
          subst hn
          clear Hs
          go_enter Tryz.func41, Tryz.ntmps41
          go_wp2_with fail
          refine (sgn_any _ _ _).mono ?_
          rintro e w3 ⟨rfl, rfl⟩
          go_wp2_with fail
          go_ret
          exact ⟨_, rfl, by simp [hi1, hi2], Hst.out _ _⟩
        · have hn : R = true := by rw [Hs.out]; simp; omega
          subst hn
          clear Hs
          go_enter Tryz.func41, Tryz.ntmps41
          go_wp2_with fail
          refine (sgn_any _ _ _).mono ?_
          rintro e w3 ⟨rfl, rfl⟩
          go_wp2_with fail
          go_ret
          exact ⟨_, rfl, by simp [hi1, hi2], Hst.out _ _⟩
    · rw [if_neg h2] at Hs
      have h2f : ¬ k ≤ 2 := h2
      by_cases h4 : k = 4
      · subst h4
        rw [if_pos rfl] at Hs
        clear h2 h2f
        by_cases hlen : ts.length = us.length
        · by_cases hnm : nm = nm'
          · subst hnm
            have hR : R = sameL ts us := by rw [Hs.out]; simp [hlen]
            have HR := hide hR
            have Hlen := hide hlen
            have hmax := Kd.F_max HF.out
            clear hR Hs
            rw [← hlen] at HG ⊢
            clear hlen
            go_enter Tryz.func41, Tryz.ntmps41
            go_wp2_with fail
            go_loopw [5] (fun x wr => ∃ k : Nat, x = .int .i64 k ∧ k ≤ ts.length ∧ R = sameL (ts.drop k) (us.drop k) ∧ Stay w wr (fun _ => False) ∧ TB w.heap.size 4 nm i (.slice A ts.length c) wr ∧ TB (w.heap.size + 1) 4 nm i' (.slice B ts.length d) wr) (fun x _ => ts.length - (intOf x).toNat)
            case atStart => exact ⟨0, rfl, Nat.zero_le _, HR.out, Hst.out _ _, (Below.heap_alloc _ _ _ (by simp)).trans (heap_alloc_new _ _), alloc2_new _ _ _⟩
            case round =>
              obtain ⟨k, rfl, hk, heq, hst, htb, htb2⟩ := hrel
              have r3 : wr.cell? ⟨w.heap.size, 3, none⟩ = _ := cell_of htb 3 _ rfl
              have r3' : wr.cell? ⟨w.heap.size + 1, 3, none⟩ = _ := cell_of htb2 3 _ rfl
              have Heq := hide heq
              have Hst' := hide hst
              have Htb := hide htb
              have Htb2 := hide htb2
              clear heq hst htb htb2 HR
              by_cases hlt : k < ts.length
              · obtain ⟨x, hx⟩ : ∃ x, ts[k]? = some x := ⟨_, List.getElem?_eq_getElem hlt⟩
                have hlt' : k < us.length := by have := Hlen.out; omega
                obtain ⟨y, hy⟩ : ∃ y, us[k]? = some y := ⟨_, List.getElem?_eq_getElem hlt'⟩
                have hGl := Hlen.out
                have HGu := HG.out
                rw [hGl] at HGu
                obtain ⟨ad, A3, c3, rfl, g0, g1, g2, g3, hl3, hF3, hok3⟩ := tm_at (Hst'.out.F HF.out (fun _ _ e => e)) k x hx
                obtain ⟨bd, B3, d3, rfl, m0, m1, m2, m3, hl3', hG3, hok3'⟩ := tm_at (Hst'.out.F HGu (fun _ _ e => e)) k y hy
                have hdx : ts.drop k = x :: ts.drop (k + 1) := by rw [List.drop_eq_getElem_cons hlt, ← (List.getElem?_eq_some_iff.1 hx).2]
                have hdy : us.drop k = y :: us.drop (k + 1) := by rw [List.drop_eq_getElem_cons hlt', ← (List.getElem?_eq_some_iff.1 hy).2]
                rw [hdx, hdy, sameL] at Heq
                have hxz : SizeOf.sizeOf x ≤ N := by
                  have := List.sizeOf_lt_of_mem (List.mem_of_getElem? hx)
                  have := Hz.out
                  omega
                have hcall : ∀ W, Stay wr W (fun _ => False) → Calls Tryz.prog 41 #[tmV x A3 c3, tmV y B3 d3] W (OrdPost (sameT x y) W) := fun W hW => HI.out x hxz y A3 B3 c3 d3 _ _ W (hW.F hF3 (fun _ _ e => e)) (hW.F hG3 (fun _ _ e => e))
                have Hcall := hide hcall
                generalize sameT x y = sxy at Heq Hcall
                clear hx hy hdx hdy hF3 hG3 HGu hGl hcall
                go_wp2_with fail
                go_region_with (go_at_call 41; refine (Hcall.out _ ((Stay.refl _ _).drew)).mono ?_; rintro e w4 ⟨r, rfl, hr, hs4⟩)
                all_goals
                  have hst4 : Stay w w4 (fun _ => False) := (Hst'.out.drew).trans hs4 (fun _ _ e => e)
                  have htb4 := (Htb.out.drewN 1).stay hs4 (fun e => e)
                  have htb4' := (Htb2.out.drewN 1).stay hs4 (fun e => e)
                  have Hst4 := hide hst4
                  have Htb4 := hide htb4
                  have Htb4' := hide htb4'
                  clear hs4 hst4 htb4 htb4'
                  cases sxy with
                  | false =>
                    have hr0 : ¬ r = 0 := fun h => by have := hr.1 h; cases this
                    clear hr
                    go_wp2_with fail
                    go_ret
                    exact ⟨r, rfl, by rw [Heq.out]; simp [hr0], Hst4.out⟩
                  | true =>
                    have hr0 : r = 0 := hr.2 rfl
                    subst hr0
                    clear hr
                    go_wp2_with fail
                    go_roundw
                    case rel => exact ⟨k + 1, by go_num, by omega, by rw [Heq.out, Bool.true_and], Hst4.out, Htb4.out, Htb4'.out⟩
                    case measure => simp [intOf]; omega
              · have hke : k = ts.length := by omega
                subst hke
                have hnil : us.drop ts.length = [] := by rw [Hlen.out, List.drop_length]
                rw [List.drop_length, hnil, show sameL [] [] = true from by simp [sameL]] at Heq
                clear hnil
                go_wp2_with fail
                go_ret
                exact ⟨0, rfl, by rw [Heq.out]; simp, Hst'.out⟩
          · have hn : R = false := by rw [Hs.out]; simp [hnm]
            subst hn
            have hnn : (nm.toList == nm'.toList) = false := by
              have : ¬ nm.toList = nm'.toList := fun h => hnm (by rw [Lib.toList_data, Lib.toList_data] at h; rw [← bs_of nm, h, bs_of])
              simpa using this
            clear Hs
            rw [← hlen] at HG ⊢
            go_enter Tryz.func41, Tryz.ntmps41
            go_wp2_with fail
            all_goals
              refine (sgn_any _ _ _).mono ?_
              rintro e w3 ⟨rfl, rfl⟩
              go_wp2_with fail
            all_goals go_ret
            all_goals refine ⟨_, rfl, ?_, Hst.out _ _⟩
            all_goals first | (split <;> simp; done) | simp
        · have hn : R = false := by rw [Hs.out]; simp [hlen]
          subst hn
          have hln : ((ts.length : Int) != (us.length : Int)) = true := by
            have : ¬ (ts.length : Int) = us.length := by omega
            simp [this]
          clear Hs
          go_enter Tryz.func41, Tryz.ntmps41
          go_wp2_with fail
          all_goals
            refine (sgn_any _ _ _).mono ?_
            rintro e w3 ⟨rfl, rfl⟩
            go_wp2_with fail
          all_goals go_ret
          all_goals refine ⟨_, rfl, ?_, Hst.out _ _⟩
          all_goals first | (split <;> simp; done) | simp
      · rw [if_neg h4] at Hs
        have h4f : (k == 4) = false := by simp [h4]
        by_cases hnm : nm = nm'
        · subst hnm
          have hn : R = true := by rw [Hs.out]; simp
          subst hn
          clear Hs
          go_enter Tryz.func41, Tryz.ntmps41
          go_wp2_with fail
          go_ret
          exact ⟨_, rfl, by simp, Hst.out _ _⟩
        · have hn : R = false := by rw [Hs.out]; simp [hnm]
          subst hn
          have hnn : (nm.toList == nm'.toList) = false := by
            have : ¬ nm.toList = nm'.toList := fun h => hnm (by rw [Lib.toList_data, Lib.toList_data] at h; rw [← bs_of nm, h, bs_of])
            simpa using this
          clear Hs
          go_enter Tryz.func41, Tryz.ntmps41
          go_wp2_with fail
          all_goals
            refine (sgn_any _ _ _).mono ?_
            rintro e w3 ⟨rfl, rfl⟩
            go_wp2_with fail
          all_goals go_ret
          all_goals refine ⟨_, rfl, ?_, Hst.out _ _⟩
          all_goals first | (split <;> simp; done) | simp
  · have hn : R = false := by rw [Hs.out]; simp [hk]
    subst hn
    have hkn : (k != k') = true := by simp [hk]
    clear Hs
    go_enter Tryz.func41, Tryz.ntmps41
    go_wp2_with fail
    all_goals
      refine (sgn_any _ _ _).mono ?_
      rintro e w3 ⟨rfl, rfl⟩
      go_wp2_with fail
    all_goals go_ret
    all_goals refine ⟨_, rfl, ?_, Hst.out _ _⟩
    all_goals first | (split <;> simp; done) | simp
end Go.Proofs.YtgidbplaoijalaaGreatRDoor

/- The walks of package pythiaref07: Order, Same, A, N, V, C. -/
namespace Go.Proofs.YtgidbplaoijalaaGreatRDoor
set_option linter.unusedSimpArgs false
open Go.RowKit Go.Proofs.YtgidbplaoijalaaGreatRDoorW.PrintWords
set_option linter.unusedVariables false

theorem order_any (N : Nat) : ∀ t : Tm, SizeOf.sizeOf t ≤ N → ∀ (u : Tm) (A B : Option Addr) (c d : Nat) (ok ok' : Nat → Prop) (w : World), Kd.F kTm w ok A t.args.length t.args → Kd.F kTm w ok' B u.args.length u.args →
      Calls Tryz.prog 41 #[tmV t A c, tmV u B d] w (OrdPost (sameT t u) w) := by
  induction N with
  | zero => intro t h; cases t; simp at h
  | succ N ih => exact fun t hz u A B c d ok ok' w hF hG => order_step ih t hz u A B c d ok ok' w hF hG

set_option maxHeartbeats 1000000 in
set_option maxRecDepth 100000 in
theorem same_any (t u : Tm) (A B : Option Addr) (c d : Nat) (ok ok' : Nat → Prop) (w : World) (hF : Kd.F kTm w ok A t.args.length t.args) (hG : Kd.F kTm w ok' B u.args.length u.args) :
    Calls Tryz.prog 14 #[tmV t A c, tmV u B d] w fun e w' => e = .returned (.bool (sameT t u)) ∧ Stay w w' (fun _ => False) := by
  have ho := hide (fun W (hW : Stay w W (fun _ => False)) => order_any (SizeOf.sizeOf t) t (Nat.le_refl _) u A B c d ok ok' W (hW.F hF (fun _ _ e => e)) (hW.F hG (fun _ _ e => e)))
  generalize sameT t u = R at ho ⊢
  obtain ⟨k, nm, i, ts⟩ := t
  obtain ⟨k', nm', i', us⟩ := u
  clear hF hG
  rw [show tmV ⟨k, nm, i, ts⟩ A c = .agg #[.int .i64 k, .string nm, .int .i64 i, .slice A ts.length c] from rfl, show tmV ⟨k', nm', i', us⟩ B d = .agg #[.int .i64 k', .string nm', .int .i64 i', .slice B us.length d] from rfl] at *
  go_enter Tryz.func14, Tryz.ntmps14
  go_wp2_with fail
  refine (ho.out _ (((Stay.refl _ _).alloc _).alloc _)).mono ?_
  rintro e w3 ⟨r, rfl, hr, hs⟩
  have hst : Stay w w3 (fun _ => False) := (((Stay.refl _ _).alloc _).alloc _).trans hs (fun _ _ e => e)
  have Hst := hide hst
  clear hs hst ho
  cases R with
  | true =>
    have h0 : r = 0 := hr.2 rfl
    subst h0
    clear hr
    go_wp2_with fail
    go_ret
    exact ⟨rfl, Hst.out⟩
  | false =>
    have h0 : (r == 0) = false := by
      have : ¬ r = 0 := fun h => by have := hr.1 h; cases this
      simp [this]
    clear hr
    go_wp2_with fail
    go_ret
    exact ⟨by simp [h0], Hst.out⟩

theorem c_any (nm : ByteArray) (ts : List Tm) (A : Option Addr) (c : Nat) (w : World) :
    Calls Tryz.prog 24 #[.string nm, .slice A ts.length c] w fun e w' => e = .returned (tmV ⟨4, nm, 0, ts⟩ A c) ∧ Stay w w' (fun _ => False) := by
  go_enter Tryz.func24, Tryz.ntmps24
  go_wp2_with fail
  refine bodyPost_ret (results_cell_row (p := 4) (ty := 24) rfl _ _ w.heap.size 24 _ (0, 0) _ rfl (heap_alloc_new w _) Tryz.underlying24 rfl (by kernel_rfl)) rfl ?_
  exact ⟨rfl, (Stay.refl _ _).alloc _⟩
theorem a_any (nm : ByteArray) (w : World) :
    Calls Tryz.prog 17 #[.string nm] w fun e w' => e = .returned (tmV ⟨3, nm, 0, []⟩ none 0) ∧ Stay w w' (fun _ => False) := by
  go_enter Tryz.func17, Tryz.ntmps17
  go_wp2_with fail
  refine bodyPost_ret (results_cell_row (p := 2) (ty := 24) rfl _ _ w.heap.size 24 _ (0, 0) _ rfl (heap_alloc_new w _) Tryz.underlying24 rfl (by kernel_rfl)) rfl ?_
  exact ⟨rfl, (Stay.refl _ _).alloc _⟩
theorem n_any (i : Int) (w : World) :
    Calls Tryz.prog 18 #[.int .i64 i] w fun e w' => e = .returned (tmV ⟨2, ⟨#[]⟩, i, []⟩ none 0) ∧ Stay w w' (fun _ => False) := by
  go_enter Tryz.func18, Tryz.ntmps18
  go_wp2_with fail
  refine bodyPost_ret (results_cell_row (p := 2) (ty := 24) rfl _ _ w.heap.size 24 _ (0, 0) _ rfl (heap_alloc_new w _) Tryz.underlying24 rfl (by kernel_rfl)) rfl ?_
  exact ⟨rfl, (Stay.refl _ _).alloc _⟩
theorem v_any (i : Int) (w : World) :
    Calls Tryz.prog 37 #[.int .i64 i] w fun e w' => e = .returned (tmV ⟨1, ⟨#[]⟩, i, []⟩ none 0) ∧ Stay w w' (fun _ => False) := by
  go_enter Tryz.func37, Tryz.ntmps37
  go_wp2_with fail
  refine bodyPost_ret (results_cell_row (p := 2) (ty := 24) rfl _ _ w.heap.size 24 _ (0, 0) _ rfl (heap_alloc_new w _) Tryz.underlying24 rfl (by kernel_rfl)) rfl ?_
  exact ⟨rfl, (Stay.refl _ _).alloc _⟩
end Go.Proofs.YtgidbplaoijalaaGreatRDoor

/- The walk of pythiaref07.List. -/
namespace Go.Proofs.YtgidbplaoijalaaGreatRDoor
set_option linter.unusedSimpArgs false
open Go.RowKit Go.Proofs.YtgidbplaoijalaaGreatRDoorW.PrintWords
set_option linter.unusedVariables false

/-- The list of terms that ends in tail. -/
def listT (ts : List Tm) (tail : Tm) : Tm := ts.foldr (fun t r => ⟨4, dotN, 0, [t, r]⟩) tail
theorem listT_snoc (ts : List Tm) (k : Nat) (x tail : Tm) (hx : ts[k]? = some x) : listT (ts.drop k) tail = ⟨4, dotN, 0, [x, listT (ts.drop (k + 1)) tail]⟩ := by
  obtain ⟨h, he⟩ := List.getElem?_eq_some_iff.1 hx
  rw [List.drop_eq_getElem_cons h, he]
  rfl

/-- A row of two elements, in a block of its own. -/
theorem two_F (t u : Tm) (A B : Option Addr) (c d : Nat) (ok : Nat → Prop) (w : World) (hF : Kd.F kTm w ok A t.args.length t.args) (hc : t.args.length ≤ c) (hG : Kd.F kTm w ok B u.args.length u.args) (hd : u.args.length ≤ d) :
    Kd.F kTm (w.alloc (.cells #[.int .i64 t.kind, .string t.name, .int .i64 t.int, .slice A t.args.length c, .int .i64 u.kind, .string u.name, .int .i64 u.int, .slice B u.args.length d] 24)) (fun k => ok k ∨ k = w.heap.size) (some ⟨w.heap.size, 0, none⟩) [t, u].length [t, u] := by
  refine blk_F (rows := [[.int .i64 t.kind, .string t.name, .int .i64 t.int, .slice A t.args.length c], [.int .i64 u.kind, .string u.name, .int .i64 u.int, .slice B u.args.length d]]) (heap_alloc_new _ _) rfl (by simp) (fun j x cs hx hcs => ?_) (.inr rfl)
  match j with
  | 0 =>
    simp only [List.getElem?_cons_zero, Option.some.injEq] at hx hcs
    subst hx; subst hcs
    exact kTm_mkF _ _ _ hc (Kd.F_mono (Kd.F_alloc hF _) (fun k hk => .inl hk))
  | 1 =>
    simp only [List.getElem?_cons_succ, List.getElem?_cons_zero, Option.some.injEq] at hx hcs
    subst hx; subst hcs
    exact kTm_mkF _ _ _ hd (Kd.F_mono (Kd.F_alloc hG _) (fun k hk => .inl hk))
  | j + 2 => simp at hx
theorem c_two (A : Option Addr) (w : World) :
    Calls Tryz.prog 24 #[.string ⟨#[46]⟩, .slice A 2 2] w fun e w' => e = .returned (.agg #[.int .i64 4, .string ⟨#[46]⟩, .int .i64 0, .slice A 2 2]) ∧ Stay w w' (fun _ => False) := c_any ⟨#[46]⟩ [zTm, zTm] A 2 w

/-- What List leaves. -/
def ListPost (w : World) (ok : Nat → Prop) (r : Tm) (e : Ending) (w' : World) : Prop :=
  ∃ A' c', e = .returned (tmV r A' c') ∧ r.args.length ≤ c' ∧ Kd.F kTm w' (fun k => ok k ∨ w.heap.size ≤ k) A' r.args.length r.args ∧ Stay w w' (fun _ => False)

set_option maxHeartbeats 2000000 in
set_option maxRecDepth 100000 in
theorem list_any (ts : List Tm) (tail : Tm) (A B : Option Addr) (c d : Nat) (ok : Nat → Prop) (w : World) (hF : Kd.F kTm w ok A ts.length ts) (hG : Kd.F kTm w ok B tail.args.length tail.args) (hd : tail.args.length ≤ d) :
    Calls Tryz.prog 16 #[.slice A ts.length c, tmV tail B d] w (ListPost w ok (listT ts tail)) := by
  have hmax := Kd.F_max hF
  have HF := hide (Kd.F_bound hF)
  have HG := hide (Kd.F_bound hG)
  have Hd := hide hd
  have hst3 : ∀ o o' o'', Stay w (((w.alloc o).alloc o').alloc o'') (fun _ => False) := fun o o' o'' => (((Stay.refl _ _).alloc o).alloc o').alloc o''
  have Hst3 := hide hst3
  have HL : Hid (listT ts tail = listT (ts.drop 0) tail) := hide rfl
  generalize listT ts tail = R at HL ⊢
  clear hF hG hd hst3
  obtain ⟨tk, tn, ti, ta⟩ := tail
  rw [show tmV ⟨tk, tn, ti, ta⟩ B d = .agg #[.int .i64 tk, .string tn, .int .i64 ti, .slice B ta.length d] from rfl]
  go_enter Tryz.func16, Tryz.ntmps16
  go_wp2_with fail
  go_loopw [6] (fun x wr => ∃ (k : Nat) (A2 : Option Addr) (c2 : Nat), x = .int .i64 ((k : Int) - 1) ∧ k ≤ ts.length ∧ TB (w.heap.size + 1 + 1) (listT (ts.drop k) ⟨tk, tn, ti, ta⟩).kind (listT (ts.drop k) ⟨tk, tn, ti, ta⟩).name (listT (ts.drop k) ⟨tk, tn, ti, ta⟩).int (.slice A2 (listT (ts.drop k) ⟨tk, tn, ti, ta⟩).args.length c2) wr ∧
      (listT (ts.drop k) ⟨tk, tn, ti, ta⟩).args.length ≤ c2 ∧ Kd.F kTm wr (fun j => (ok j ∧ j < w.heap.size) ∨ w.heap.size + 1 + 1 < j) A2 (listT (ts.drop k) ⟨tk, tn, ti, ta⟩).args.length (listT (ts.drop k) ⟨tk, tn, ti, ta⟩).args ∧ Stay w wr (fun _ => False) ∧ TB (w.heap.size + 1) 0 ⟨#[]⟩ 0 (.slice none 0 0) wr) (fun x _ => (intOf x + 1).toNat)
  case atStart =>
    refine ⟨ts.length, B, d, by go_num, Nat.le_refl _, ?_, ?_, ?_, Hst3.out _ _ _, alloc3_1 _ _ _ _⟩
    · rw [List.drop_length]
      have h := heap_alloc_new ((w.alloc (.cells #[.int .i64 tk, .string tn, .int .i64 ti, .slice B ta.length d] 24)).alloc (.cells #[.int .i64 0, .string ⟨#[]⟩, .int .i64 0, .slice none 0 0] 24)) (.cells #[.int .i64 tk, .string tn, .int .i64 ti, .slice B ta.length d] 24)
      rw [alloc_size, alloc_size] at h
      exact h
    · rw [List.drop_length]; exact Hd.out
    · rw [List.drop_length]; exact Kd.F_mono (Kd.F_alloc (Kd.F_alloc (Kd.F_alloc HG.out _) _) _) (fun j hj => .inl hj)
  case round =>
    obtain ⟨k, A2, c2, rfl, hk, htb, hc2, hFo, hst, hres⟩ := hrel
    have Hst := hide hst
    have Hres := hide hres
    cases k with
    | zero =>
      rw [← HL.out] at htb hc2 hFo
      have q0 : wr.cell? ⟨w.heap.size + 1 + 1, 0, none⟩ = _ := cell_of htb 0 _ rfl
      have q1 : wr.cell? ⟨w.heap.size + 1 + 1, 1, none⟩ = _ := cell_of htb 1 _ rfl
      have q2 : wr.cell? ⟨w.heap.size + 1 + 1, 2, none⟩ = _ := cell_of htb 2 _ rfl
      have q3 : wr.cell? ⟨w.heap.size + 1 + 1, 3, none⟩ = _ := cell_of htb 3 _ rfl
      have r0 : wr.cell? ⟨w.heap.size + 1, 0, none⟩ = _ := cell_of hres 0 _ rfl
      have r1 : wr.cell? ⟨w.heap.size + 1, 1, none⟩ = _ := cell_of hres 1 _ rfl
      have r2 : wr.cell? ⟨w.heap.size + 1, 2, none⟩ = _ := cell_of hres 2 _ rfl
      have r3 : wr.cell? ⟨w.heap.size + 1, 3, none⟩ = _ := cell_of hres 3 _ rfl
      have rf : ∀ j : Nat, wr.frozen? ⟨w.heap.size + 1, j, none⟩ = false := free_of hres
      have HFo := hide hFo
      clear hFo htb hst hres
      go_wp2_with fail
      have hw := TB.stay_all (w.heap.size + 1) wr R.kind R.int R.name (.slice A2 R.args.length c2)
      have hb4 := TB.all Hres.out R.kind R.int R.name (.slice A2 R.args.length c2)
      refine bodyPost_ret (results_cell_row (p := 4) (ty := 24) rfl _ _ (w.heap.size + 1) 24 _ (0, 0) _ rfl hb4 Tryz.underlying24 rfl (by kernel_rfl)) rfl ?_
      exact ⟨A2, c2, rfl, hc2, Kd.F_mono (hw.F HFo.out (fun j hj e => by rcases hj with hj | hj <;> omega)) (fun j hj => by
        rcases hj with hj | hj
        · exact .inl hj.1
        · exact .inr (by omega)), Hst.out.trans hw (fun j hj e => by omega)⟩
    | succ m =>
      obtain ⟨x, hx⟩ : ∃ x, ts[m]? = some x := ⟨_, List.getElem?_eq_getElem (by omega)⟩
      have hls := listT_snoc ts m x ⟨tk, tn, ti, ta⟩ hx
      generalize listT (ts.drop (m + 1)) ⟨tk, tn, ti, ta⟩ = o at htb hc2 hFo hls
      obtain ⟨ad, A3, c3, rfl, g0, g1, g2, g3, hl3, hF3, hok3⟩ := tm_at (hst.F HF.out (fun _ _ e => e)) m x hx
      rw [show ((m + 1 : Nat) : Int) - 1 = (m : Int) from by omega]
      have Htb := hide htb
      have HFo := hide hFo
      have HF3 := hide hF3
      have Hls := hide hls
      have q0 : wr.cell? ⟨w.heap.size + 1 + 1, 0, none⟩ = _ := cell_of htb 0 _ rfl
      have q1 : wr.cell? ⟨w.heap.size + 1 + 1, 1, none⟩ = _ := cell_of htb 1 _ rfl
      have q2 : wr.cell? ⟨w.heap.size + 1 + 1, 2, none⟩ = _ := cell_of htb 2 _ rfl
      have q3 : wr.cell? ⟨w.heap.size + 1 + 1, 3, none⟩ = _ := cell_of htb 3 _ rfl
      have hmlt : m < ts.length := by omega
      have hb2 : w.heap.size + 1 + 1 < wr.heap.size := lt_of htb
      clear htb hFo hF3 hls hx hst hres
      go_wp2_with fail
      go_region_with (go_at_call 24; refine (c_two _ _).mono ?_; rintro e w4 ⟨rfl, hs4⟩; have p4 := ((TB.drew Htb.out).alloc _).stay hs4 (fun e => e); have z0 := cell_of p4 0 _ rfl; have z1 := cell_of p4 1 _ rfl; have z2 := cell_of p4 2 _ rfl; have z3 := cell_of p4 3 _ rfl; have zf := fun j => free_of p4 j)
      all_goals
        have hF2 := two_F x o A3 A2 c3 c2 (fun j => (ok j ∧ j < w.heap.size) ∨ w.heap.size + 1 + 1 < j) wr.drew (Kd.F_drew (Kd.F_mono HF3.out (fun j hj => .inl hj))) hl3 (Kd.F_drew HFo.out) hc2
        have hw := TB.stay_all (w.heap.size + 1 + 1) w4 4 0 ⟨#[46]⟩ (.slice (some ⟨wr.heap.size, 0, none⟩) 2 2)
        have hF4 := hw.F (hs4.F hF2 (fun _ _ e => e)) (fun j hj e => by
          rcases hj with (hj | hj) | hj
          · omega
          · omega
          · have : j = wr.heap.size := hj
            omega)
        have hb4 := TB.all p4 4 0 ⟨#[46]⟩ (.slice (some ⟨wr.heap.size, 0, none⟩) 2 2)
        have hst4 : Stay w _ (fun _ => False) := ((Hst.out.drew.alloc _).trans hs4 (fun _ _ e => e)).trans hw (fun j hj e => by omega)
        have hres4 := (((TB.drew Hres.out).alloc _).stay hs4 (fun e => e)).stay hw (by omega)
        have HF4 := hide hF4
        have HB4 := hide hb4
        have HS4 := hide hst4
        have HR4 := hide hres4
        clear hF2 hw hF4 hb4 hst4 hres4 hs4 p4 z0 z1 z2 z3 zf
        go_wp2_with fail
        go_roundw
        case rel =>
          refine ⟨m, some ⟨wr.heap.size, 0, none⟩, 2, by go_num, by omega, ?_, ?_, ?_, HS4.out, HR4.out⟩
          · rw [Hls.out]; exact HB4.out
          · rw [Hls.out]; exact Nat.le_refl _
          · rw [Hls.out]; exact Kd.F_mono HF4.out (fun j hj => by
              rcases hj with hj | hj
              · exact hj
              · exact .inr (by have : j = wr.heap.size := hj; omega))
        case measure => simp [intOf]
end Go.Proofs.YtgidbplaoijalaaGreatRDoor

/- Terms that came in: what their reading says of memory. -/
namespace Go.Proofs.YtgidbplaoijalaaGreatRDoor
set_option linter.unusedSimpArgs false
open Go.RowKit Go.Proofs.YtgidbplaoijalaaGreatRDoorW.PrintWords Go.ChangeShapes Go.WideShapes
set_option linter.unusedVariables false

theorem tm_cellsOf : Tryz.prog.cellsOf 24 = 4 := by kernel_rfl
theorem int_cellsOf : Tryz.prog.cellsOf 2 = 1 := by kernel_rfl
theorem tmHeap : Kd.Heap kTm := Kd.heap_fix (fun d hd => Kd.heap_iso _ (Kd.heap_pair (Kd.heap_int _) (Kd.heap_pair Kd.heap_string (Kd.heap_pair (Kd.heap_int _) (Kd.heap_slice _ hd)))))

theorem rngL_all {ts : List Tm} (h : ∀ t ∈ ts, rngT t = true) : rngL ts = true := by
  induction ts with
  | nil => rw [rngL]
  | cons t ts ih => rw [rngL, h t (by simp), ih (fun u hu => h u (by simp [hu]))]; rfl

theorem list4 {α : Type} {l : List α} (h : l.length = 4) : ∃ a b c d, l = [a, b, c, d] := by
  match l, h with
  | [a, b, c, d], _ => exact ⟨a, b, c, d, rfl⟩
/-- What is known of a term's four cells. -/
def TmCells (w : World) (cs : List Value) (t : Tm) : Prop :=
  ∃ (A : Option Addr) (c : Nat), cs = [.int .i64 t.kind, .string t.name, .int .i64 t.int, .slice A t.args.length c] ∧ t.args.length ≤ c ∧ kTm.C w A t.args.length t.args ∧ rngT t = true

section
variable {H : Type} {enc : TypeId × Value → H} {w : World} {base : Nat} {spare : Nat → Bool} {held : Bool}

set_option maxRecDepth 100000 in
/-- A row of terms, element by element. -/
theorem open_row (n : Nat) (ih : ∀ {cs : List Value} {x : DataW H × List MemPlace}, DataW.trod enc Tryz.prog w base spare held n 24 cs = some x → ∃ t, TmCells w cs t)
    {cs : List Value} {x : DataW H × List MemPlace} (h : DataW.trod enc Tryz.prog w base spare held (n + 1) 22 cs = some x) :
    ∃ (A : Option Addr) (ts : List Tm) (c : Nat), cs = [.slice A ts.length c] ∧ ts.length ≤ c ∧ kTm.C w A ts.length ts ∧ rngL ts = true := by
  rcases DataW.trod_slice Tryz.underlying22 h with ⟨rfl, _⟩ | ⟨a, len, cap, elems, rest, n', hn, rfl, _, _, hl, hm, hlen, hel, _, _⟩
  · exact ⟨none, [], 0, rfl, Nat.le_refl _, Kd.C_nil _ _, by rw [rngL]⟩
  · obtain rfl : n = n' := by omega
    have each : ∀ i, i < len → ∃ q : Tm × List Value, w.cells? base (a.add (i * 4)) 4 = some q.2 ∧ TmCells w q.2 q.1 := fun i hi => by
      have h1 := hel i hi
      rw [List.getElem?_eq_getElem (by omega), tm_cellsOf] at h1
      obtain ⟨cs', h2, h3⟩ := Option.bind_eq_some_iff.1 h1
      obtain ⟨t, ht⟩ := ih h3
      exact ⟨(t, cs'), h2, ht⟩
    have hinh : Inhabited (Tm × List Value) := ⟨(zTm, [])⟩
    obtain ⟨f, hf⟩ := Go.Deep.choose_lt each
    refine ⟨some a, (List.range len).map (fun i => (f i).1), cap, by simp, by simpa using hl, ?_, rngL_all fun t ht => ?_⟩
    · refine ⟨by simp, by unfold maxLen at hm; simp; omega, fun h0 => ⟨a, rfl, fun j p hj => ?_⟩⟩
      have hjl : j < len := by
        have := (List.getElem?_eq_some_iff.1 hj).1
        simpa using this
      have hp : p = (f j).1 := by
        have := (List.getElem?_eq_some_iff.1 hj).2
        simpa using this.symm
      subst hp
      obtain ⟨h1, h2⟩ := hf j hjl
      obtain ⟨A, c, hcs, hc, hC, hr⟩ := h2
      obtain ⟨_, h3, h4⟩ := World.cells?_some h1
      refine ⟨(f j).2, h3, ?_, fun i u hi => ?_⟩
      · rw [hcs]
        exact kTm_mk w (f j).1 hc hC
      · have hil : i < 4 := by
          have := (List.getElem?_eq_some_iff.1 hi).1
          omega
        have := h4 i hil
        rw [hi, Go.Deep.add_add] at this
        exact this
    · obtain ⟨i, hi, rfl⟩ := List.mem_map.1 ht
      obtain ⟨_, h2⟩ := hf i (List.mem_range.1 hi)
      obtain ⟨A, c, hcs, hc, hC, hr⟩ := h2
      exact hr

set_option maxRecDepth 100000 in
theorem open_tm : ∀ (N fuel : Nat), fuel ≤ N → ∀ {cs : List Value} {x : DataW H × List MemPlace}, DataW.trod enc Tryz.prog w base spare held fuel 24 cs = some x → ∃ t, TmCells w cs t := by
  intro N
  induction N with
  | zero =>
    intro fuel hN cs x h
    obtain rfl : fuel = 0 := by omega
    simp [DataW.trod] at h
  | succ N ih =>
    intro fuel hN cs x h
    obtain ⟨xs, n, rfl, _, hcl, hxl, hf⟩ := DataW.trod_struct Tryz.underlying24 h
    rw [tm_cellsOf] at hcl
    obtain ⟨c0, c1, c2, c3, rfl⟩ := list4 hcl
    obtain ⟨y0, y1, y2, y3, rfl⟩ := list4 (show xs.length = 4 from hxl)
    · skip
      have g0 : DataW.trod enc Tryz.prog w base spare held n 3 [c0] = some y0 := hf 0 _ rfl
      have g1 : DataW.trod enc Tryz.prog w base spare held n 9 [c1] = some y1 := hf 1 _ rfl
      have g2 : DataW.trod enc Tryz.prog w base spare held n 2 [c2] = some y2 := hf 2 _ rfl
      have g3 : DataW.trod enc Tryz.prog w base spare held n 22 [c3] = some y3 := hf 3 _ rfl
      obtain ⟨k, e0, _, w0⟩ := DataW.trod_int Tryz.underlying3 g0
      obtain ⟨s, e1, _, w1⟩ := DataW.trod_string Tryz.underlying9 g1
      obtain ⟨i, e2, _, w2⟩ := DataW.trod_int Tryz.underlying2 g2
      cases n with
      | zero => simp [DataW.trod] at g3
      | succ n =>
        obtain ⟨A, ts, c, e3, hc, hC, hr⟩ := open_row n (fun hx => ih n (by omega) hx) g3
        injection e0 with e0
        injection e1 with e1
        injection e2 with e2
        injection e3 with e3
        subst e0 e1 e2 e3
        refine ⟨⟨k, s, i, ts⟩, A, c, rfl, hc, hC, ?_⟩
        rw [rngT, hr]
        have := bounds_i64 w2
        simp
        omega
end
end Go.Proofs.YtgidbplaoijalaaGreatRDoor
