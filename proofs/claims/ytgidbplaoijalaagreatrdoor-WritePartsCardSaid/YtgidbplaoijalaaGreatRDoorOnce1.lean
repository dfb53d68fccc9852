/- The kinds of the program's structs: what their cells say (by the kit's kinds.py, the words of the print). -/
import Derived.Test.YtgidbplaoijalaaGreatRDoorWN
import Derived.Test.YtgidbplaoijalaaGreatRDoorWMore
import Derived.Test.YtgidbplaoijalaaGreatRDoorWKept
import Derived.Test.YtgidbplaoijalaaGreatRDoorProg
import Derived.WalkKit
import Derived.WalkLawsBesides
import Derived.BigQuiet
import Derived.Deep.QuietTactic
import Derived.Deep.LoopGhost
import Derived.Lib.Builder
import Derived.Lib.AppendStr
import Derived.Lib.UnsafeStr
import Derived.Lib.Strings
import Derived.Lib.Slices
import Derived.Lib.Index
import Derived.Lib.Bytealg
import Derived.Shelf.Strings.Shaped
import Derived.Shelf.Lay
import Derived.Lib.Hide
import Derived.Test.YtgidbplaoijalaaGreatRDoorShelf
import Derived.LaidEql
import Derived.Stop.Asserts
import Derived.Lib.AtoiErrMem
import Derived.Deep.RegionWith
import Derived.Laws.Rows
import Derived.Deep.RegionLaw
import Derived.Deep.AppendLies
import Derived.Deep.DrawnRows

namespace Go.Proofs.YtgidbplaoijalaaGreatRDoor
set_option linter.unusedSimpArgs false
open Go.RowKit Go.Proofs.YtgidbplaoijalaaGreatRDoorW.PrintWords
set_option linter.unusedVariables false
/-! #### struct 24, nested in itself -/
structure Tm where
  kind : Int
  name : ByteArray
  int : Int
  args : (List Tm)
def zTm : Tm := ⟨(0 : Int), (⟨#[]⟩ : ByteArray), (0 : Int), ([] : List Tm)⟩
def FTm (d : Kd Tm) : Kd Tm := Kd.iso (Kd.pair (Kd.int .i64) (Kd.pair Kd.string (Kd.pair (Kd.int .i64) (Kd.slice 24 d)))) (fun x : Tm => (x.kind, x.name, x.int, x.args))
theorem monoTm : Kd.Mono FTm := Kd.mono_iso _ (Kd.mono_pair (Kd.mono_const _) (Kd.mono_pair (Kd.mono_const _) (Kd.mono_pair (Kd.mono_const _) (Kd.mono_slice 24 Kd.mono_id))))
theorem subTm : Kd.Sub FTm [24] := Kd.sub_iso _ (Kd.sub_pair (Kd.sub_const _ (by decide)) (Kd.sub_pair (Kd.sub_const _ (by decide)) (Kd.sub_pair (Kd.sub_const _ (by decide)) (Kd.sub_slice 24 (by decide) Kd.sub_id))))
theorem szTm : ∀ n, (Kd.upto FTm 4 [24] n).sz = 4 := Kd.upto_sz (fun _ => rfl)
def kTm : Kd Tm := Kd.fix FTm 4 [24] szTm (Kd.upto_E subTm)
theorem kTm_open {w : World} {x : Tm} {cs : List Value} (h : kTm.K w x cs) : ∃ A3 c3, cs = [.int .i64 x.kind, .string x.name, .int .i64 x.int, .slice A3 x.args.length c3] ∧ x.args.length ≤ c3 ∧ kTm.C w A3 x.args.length x.args := by
  obtain ⟨n, h⟩ := h
  cases n with
  | zero => exact h.elim
  | succ n =>
    obtain ⟨_, _, rfl, rfl, ⟨_, _, rfl, rfl, ⟨_, _, rfl, rfl, ⟨A3, c3, rfl, l3, g3⟩⟩⟩⟩ := h
    exact ⟨A3, c3, rfl, l3, Kd.fix_C g3⟩
theorem kTm_openM {w : World} {base : Nat} {ok : Nat → Prop} {x : Tm} {cs : List Value} (h : kTm.M w base ok x cs) : ∃ v3, cs = [.int .i64 x.kind, .string x.name, .int .i64 x.int, v3] ∧ kTm.R 24 w base ok v3 x.args := by
  obtain ⟨n, h⟩ := h
  cases n with
  | zero => exact h.elim
  | succ n =>
    obtain ⟨_, _, rfl, rfl, ⟨_, _, rfl, rfl, ⟨_, _, rfl, rfl, ⟨v3, rfl, g3⟩⟩⟩⟩ := h
    exact ⟨v3, rfl, Kd.fix_R g3⟩
theorem kTm_mk (w : World) (x : Tm) {A3 : Option Addr} {c3 : Nat} (l3 : x.args.length ≤ c3) (g3 : kTm.C w A3 x.args.length x.args) : kTm.K w x [.int .i64 x.kind, .string x.name, .int .i64 x.int, .slice A3 x.args.length c3] := by
  obtain ⟨n3, q3⟩ := Kd.fix_C_back monoTm g3
  have r3 := Kd.upto_C_le monoTm szTm (show n3 ≤ n3 by omega) q3
  exact ⟨n3 + 1, ⟨[.int .i64 x.kind], [.string x.name, .int .i64 x.int, .slice A3 x.args.length c3], rfl, rfl, ⟨[.string x.name], [.int .i64 x.int, .slice A3 x.args.length c3], rfl, rfl, ⟨[.int .i64 x.int], [.slice A3 x.args.length c3], rfl, rfl, ⟨A3, c3, rfl, l3, r3⟩⟩⟩⟩⟩
theorem kTm_mkM (w : World) (base : Nat) (ok : Nat → Prop) (x : Tm) {v3 : Value} (g3 : kTm.R 24 w base ok v3 x.args) : kTm.M w base ok x [.int .i64 x.kind, .string x.name, .int .i64 x.int, v3] := by
  obtain ⟨n3, q3⟩ := Kd.fix_R_back monoTm g3
  have r3 := Kd.upto_R_le monoTm szTm (show n3 ≤ n3 by omega) q3
  exact ⟨n3 + 1, ⟨[.int .i64 x.kind], [.string x.name, .int .i64 x.int, v3], rfl, rfl, ⟨[.string x.name], [.int .i64 x.int, v3], rfl, rfl, ⟨[.int .i64 x.int], [v3], rfl, rfl, ⟨v3, rfl, r3⟩⟩⟩⟩⟩
theorem kTm_openF {W : World} {ok : Nat → Prop} {x : Tm} {cs : List Value} (h : Kd.FK kTm W ok x cs) : ∃ A3 c3, cs = [.int .i64 x.kind, .string x.name, .int .i64 x.int, .slice A3 x.args.length c3] ∧ x.args.length ≤ c3 ∧ Kd.F kTm W ok A3 x.args.length x.args := by
  obtain ⟨A3, c3, rfl, l3, _⟩ := kTm_open (Kd.FK_now h)
  exact ⟨A3, c3, rfl, l3, (fun W' hW => by obtain ⟨A3_, c3_, he, l3_, g3_⟩ := kTm_open (h W' hW); injection (Option.some.inj (show some (Value.slice A3 x.args.length c3) = some (Value.slice A3_ x.args.length c3_) from congrArg (fun l => l[3]?) he)) with ha_ _ _; rw [ha_]; exact g3_)⟩
theorem kTm_mkF (W : World) (ok : Nat → Prop) (x : Tm) {A3 : Option Addr} {c3 : Nat} (l3 : x.args.length ≤ c3) (g3 : Kd.F kTm W ok A3 x.args.length x.args) : Kd.FK kTm W ok x [.int .i64 x.kind, .string x.name, .int .i64 x.int, .slice A3 x.args.length c3] := fun W2 hW => kTm_mk W2 x l3 (g3 W2 hW)
def rd_TTm (xs : List Tm) (i : Int) : Tm := xs.getD i.toNat zTm
theorem at_TTm {w : World} {A : Option Addr} {n : Nat} {xs : List Tm} (h : Kd.C kTm w A n xs) (i : Int) (h0 : 0 ≤ i) (h1 : i < n) : ∃ ad A3 c3, A = some ad ∧ w.cell? (ad.add (i.toNat * 4)) = some (.int .i64 (rd_TTm xs i).kind) ∧ w.cell? ⟨(ad.add (i.toNat * 4)).block, (ad.add (i.toNat * 4)).off + 1, none⟩ = some (.string (rd_TTm xs i).name) ∧ w.cell? ⟨(ad.add (i.toNat * 4)).block, (ad.add (i.toNat * 4)).off + 2, none⟩ = some (.int .i64 (rd_TTm xs i).int) ∧ w.cell? ⟨(ad.add (i.toNat * 4)).block, (ad.add (i.toNat * 4)).off + 3, none⟩ = some (.slice A3 (rd_TTm xs i).args.length c3) ∧ (rd_TTm xs i).args.length ≤ c3 ∧ kTm.C w A3 (rd_TTm xs i).args.length (rd_TTm xs i).args := by
  obtain ⟨ad, c, e, _, hK, hc0⟩ := Kd.C_get h zTm i h0 h1
  have hc : ∀ j u, c[j]? = some u → w.cell? (ad.add (i.toNat * 4 + j)) = some u := hc0
  obtain ⟨A3, c3, rfl, l3, g3⟩ := kTm_open hK
  exact ⟨ad, A3, c3, e, hc 0 _ rfl, by rw [← add_field _ _ 1 (by omega)]; exact hc 1 _ rfl, by rw [← add_field _ _ 2 (by omega)]; exact hc 2 _ rfl, by rw [← add_field _ _ 3 (by omega)]; exact hc 3 _ rfl, l3, g3⟩

/-! #### struct 139 -/
structure Tok where
  kind : Int
  text : ByteArray
  int : Int
  pos : Int
  quoted : Bool
  apart : Bool
def zTok : Tok := ⟨(0 : Int), (⟨#[]⟩ : ByteArray), (0 : Int), (0 : Int), false, false⟩
def kTok : Kd Tok := Kd.iso (Kd.pair (Kd.int .i64) (Kd.pair Kd.string (Kd.pair (Kd.int .i64) (Kd.pair (Kd.int .i64) (Kd.pair Kd.bool Kd.bool))))) (fun x : Tok => (x.kind, x.text, x.int, x.pos, x.quoted, x.apart))
theorem kTok_open {w : World} {x : Tok} {cs : List Value} (h : kTok.K w x cs) : cs = [.int .i64 x.kind, .string x.text, .int .i64 x.int, .int .i64 x.pos, .bool x.quoted, .bool x.apart] := by
  obtain ⟨_, _, rfl, rfl, ⟨_, _, rfl, rfl, ⟨_, _, rfl, rfl, ⟨_, _, rfl, rfl, ⟨_, _, rfl, rfl, rfl⟩⟩⟩⟩⟩ := h
  exact rfl
theorem kTok_openM {w : World} {base : Nat} {ok : Nat → Prop} {x : Tok} {cs : List Value} (h : kTok.M w base ok x cs) : cs = [.int .i64 x.kind, .string x.text, .int .i64 x.int, .int .i64 x.pos, .bool x.quoted, .bool x.apart] := by
  obtain ⟨_, _, rfl, rfl, ⟨_, _, rfl, rfl, ⟨_, _, rfl, rfl, ⟨_, _, rfl, rfl, ⟨_, _, rfl, rfl, rfl⟩⟩⟩⟩⟩ := h
  exact rfl
theorem kTok_mk (w : World) (x : Tok)  : kTok.K w x [.int .i64 x.kind, .string x.text, .int .i64 x.int, .int .i64 x.pos, .bool x.quoted, .bool x.apart] := ⟨[.int .i64 x.kind], [.string x.text, .int .i64 x.int, .int .i64 x.pos, .bool x.quoted, .bool x.apart], rfl, rfl, ⟨[.string x.text], [.int .i64 x.int, .int .i64 x.pos, .bool x.quoted, .bool x.apart], rfl, rfl, ⟨[.int .i64 x.int], [.int .i64 x.pos, .bool x.quoted, .bool x.apart], rfl, rfl, ⟨[.int .i64 x.pos], [.bool x.quoted, .bool x.apart], rfl, rfl, ⟨[.bool x.quoted], [.bool x.apart], rfl, rfl, rfl⟩⟩⟩⟩⟩
theorem kTok_mkM (w : World) (base : Nat) (ok : Nat → Prop) (x : Tok)  : kTok.M w base ok x [.int .i64 x.kind, .string x.text, .int .i64 x.int, .int .i64 x.pos, .bool x.quoted, .bool x.apart] := ⟨[.int .i64 x.kind], [.string x.text, .int .i64 x.int, .int .i64 x.pos, .bool x.quoted, .bool x.apart], rfl, rfl, ⟨[.string x.text], [.int .i64 x.int, .int .i64 x.pos, .bool x.quoted, .bool x.apart], rfl, rfl, ⟨[.int .i64 x.int], [.int .i64 x.pos, .bool x.quoted, .bool x.apart], rfl, rfl, ⟨[.int .i64 x.pos], [.bool x.quoted, .bool x.apart], rfl, rfl, ⟨[.bool x.quoted], [.bool x.apart], rfl, rfl, rfl⟩⟩⟩⟩⟩
theorem kTok_mkF (W : World) (ok : Nat → Prop) (x : Tok) : Kd.FK kTok W ok x [.int .i64 x.kind, .string x.text, .int .i64 x.int, .int .i64 x.pos, .bool x.quoted, .bool x.apart] := fun W2 _ => kTok_mk W2 x
def rd_TTok (xs : List Tok) (i : Int) : Tok := xs.getD i.toNat zTok
theorem at_TTok {w : World} {A : Option Addr} {n : Nat} {xs : List Tok} (h : Kd.C kTok w A n xs) (i : Int) (h0 : 0 ≤ i) (h1 : i < n) : ∃ ad , A = some ad ∧ w.cell? (ad.add (i.toNat * 6)) = some (.int .i64 (rd_TTok xs i).kind) ∧ w.cell? ⟨(ad.add (i.toNat * 6)).block, (ad.add (i.toNat * 6)).off + 1, none⟩ = some (.string (rd_TTok xs i).text) ∧ w.cell? ⟨(ad.add (i.toNat * 6)).block, (ad.add (i.toNat * 6)).off + 2, none⟩ = some (.int .i64 (rd_TTok xs i).int) ∧ w.cell? ⟨(ad.add (i.toNat * 6)).block, (ad.add (i.toNat * 6)).off + 3, none⟩ = some (.int .i64 (rd_TTok xs i).pos) ∧ w.cell? ⟨(ad.add (i.toNat * 6)).block, (ad.add (i.toNat * 6)).off + 4, none⟩ = some (.bool (rd_TTok xs i).quoted) ∧ w.cell? ⟨(ad.add (i.toNat * 6)).block, (ad.add (i.toNat * 6)).off + 5, none⟩ = some (.bool (rd_TTok xs i).apart) := by
  obtain ⟨ad, c, e, _, hK, hc0⟩ := Kd.C_get h zTok i h0 h1
  have hc : ∀ j u, c[j]? = some u → w.cell? (ad.add (i.toNat * 6 + j)) = some u := hc0
  obtain rfl := kTok_open hK
  exact ⟨ad, e, hc 0 _ rfl, by rw [← add_field _ _ 1 (by omega)]; exact hc 1 _ rfl, by rw [← add_field _ _ 2 (by omega)]; exact hc 2 _ rfl, by rw [← add_field _ _ 3 (by omega)]; exact hc 3 _ rfl, by rw [← add_field _ _ 4 (by omega)]; exact hc 4 _ rfl, by rw [← add_field _ _ 5 (by omega)]; exact hc 5 _ rfl⟩

/-! #### struct 49 -/
structure Opr where
  name : ByteArray
  type : Int
  prec : Int
def zOpr : Opr := ⟨(⟨#[]⟩ : ByteArray), (0 : Int), (0 : Int)⟩
def kOpr : Kd Opr := Kd.iso (Kd.pair Kd.string (Kd.pair (Kd.int .i64) (Kd.int .i64))) (fun x : Opr => (x.name, x.type, x.prec))
theorem kOpr_open {w : World} {x : Opr} {cs : List Value} (h : kOpr.K w x cs) : cs = [.string x.name, .int .i64 x.type, .int .i64 x.prec] := by
  obtain ⟨_, _, rfl, rfl, ⟨_, _, rfl, rfl, rfl⟩⟩ := h
  exact rfl
theorem kOpr_openM {w : World} {base : Nat} {ok : Nat → Prop} {x : Opr} {cs : List Value} (h : kOpr.M w base ok x cs) : cs = [.string x.name, .int .i64 x.type, .int .i64 x.prec] := by
  obtain ⟨_, _, rfl, rfl, ⟨_, _, rfl, rfl, rfl⟩⟩ := h
  exact rfl
theorem kOpr_mk (w : World) (x : Opr)  : kOpr.K w x [.string x.name, .int .i64 x.type, .int .i64 x.prec] := ⟨[.string x.name], [.int .i64 x.type, .int .i64 x.prec], rfl, rfl, ⟨[.int .i64 x.type], [.int .i64 x.prec], rfl, rfl, rfl⟩⟩
theorem kOpr_mkM (w : World) (base : Nat) (ok : Nat → Prop) (x : Opr)  : kOpr.M w base ok x [.string x.name, .int .i64 x.type, .int .i64 x.prec] := ⟨[.string x.name], [.int .i64 x.type, .int .i64 x.prec], rfl, rfl, ⟨[.int .i64 x.type], [.int .i64 x.prec], rfl, rfl, rfl⟩⟩
theorem kOpr_mkF (W : World) (ok : Nat → Prop) (x : Opr) : Kd.FK kOpr W ok x [.string x.name, .int .i64 x.type, .int .i64 x.prec] := fun W2 _ => kOpr_mk W2 x
def rd_TOpr (xs : List Opr) (i : Int) : Opr := xs.getD i.toNat zOpr
theorem at_TOpr {w : World} {A : Option Addr} {n : Nat} {xs : List Opr} (h : Kd.C kOpr w A n xs) (i : Int) (h0 : 0 ≤ i) (h1 : i < n) : ∃ ad , A = some ad ∧ w.cell? (ad.add (i.toNat * 3)) = some (.string (rd_TOpr xs i).name) ∧ w.cell? ⟨(ad.add (i.toNat * 3)).block, (ad.add (i.toNat * 3)).off + 1, none⟩ = some (.int .i64 (rd_TOpr xs i).type) ∧ w.cell? ⟨(ad.add (i.toNat * 3)).block, (ad.add (i.toNat * 3)).off + 2, none⟩ = some (.int .i64 (rd_TOpr xs i).prec) := by
  obtain ⟨ad, c, e, _, hK, hc0⟩ := Kd.C_get h zOpr i h0 h1
  have hc : ∀ j u, c[j]? = some u → w.cell? (ad.add (i.toNat * 3 + j)) = some u := hc0
  obtain rfl := kOpr_open hK
  exact ⟨ad, e, hc 0 _ rfl, by rw [← add_field _ _ 1 (by omega)]; exact hc 1 _ rfl, by rw [← add_field _ _ 2 (by omega)]; exact hc 2 _ rfl⟩

def rd_L6 (xs : List (List ByteArray)) (i : Int) : (List ByteArray) := xs.getD i.toNat ([] : List ByteArray)
theorem at_L6 {w : World} {A : Option Addr} {n : Nat} {xs : List (List ByteArray)} (h : Kd.C (Kd.slice 9 Kd.string) w A n xs) (i : Int) (h0 : 0 ≤ i) (h1 : i < n) : ∃ ad A0 c0, A = some ad ∧ w.cell? (ad.add i.toNat) = some (.slice A0 (rd_L6 xs i).length c0) ∧ (rd_L6 xs i).length ≤ c0 ∧ Kd.string.C w A0 (rd_L6 xs i).length (rd_L6 xs i) := by
  obtain ⟨ad, c, e, _, hK, hc0⟩ := Kd.C_get h ([] : List ByteArray) i h0 h1
  have hc : ∀ j u, c[j]? = some u → w.cell? (ad.add (i.toNat * 1 + j)) = some u := hc0
  obtain ⟨A0, c0, rfl, l0, g0⟩ := hK
  exact ⟨ad, A0, c0, e, by have hq := hc 0 _ rfl; rwa [Nat.mul_one, Nat.add_zero] at hq, l0, g0⟩

/-! #### struct 45 -/
structure Rd where
  term : Tm
  names : (List ByteArray)
  pos : Int
def zRd : Rd := ⟨zTm, ([] : List ByteArray), (0 : Int)⟩
def kRd : Kd Rd := Kd.iso (Kd.pair kTm (Kd.pair (Kd.slice 9 Kd.string) (Kd.int .i64))) (fun x : Rd => (x.term, x.names, x.pos))
theorem kRd_open {w : World} {x : Rd} {cs : List Value} (h : kRd.K w x cs) : ∃ A3 c3 A4 c4, cs = [.int .i64 x.term.kind, .string x.term.name, .int .i64 x.term.int, .slice A3 x.term.args.length c3, .slice A4 x.names.length c4, .int .i64 x.pos] ∧ x.term.args.length ≤ c3 ∧ kTm.C w A3 x.term.args.length x.term.args ∧ x.names.length ≤ c4 ∧ Kd.string.C w A4 x.names.length x.names := by
  obtain ⟨_, _, rfl, s0, ⟨_, _, rfl, ⟨A4, c4, rfl, l4, g4⟩, rfl⟩⟩ := h
  obtain ⟨A3, c3, rfl, l3, g3⟩ := kTm_open s0
  exact ⟨A3, c3, A4, c4, rfl, l3, g3, l4, g4⟩
theorem kRd_openM {w : World} {base : Nat} {ok : Nat → Prop} {x : Rd} {cs : List Value} (h : kRd.M w base ok x cs) : ∃ v3 v4, cs = [.int .i64 x.term.kind, .string x.term.name, .int .i64 x.term.int, v3, v4, .int .i64 x.pos] ∧ kTm.R 24 w base ok v3 x.term.args ∧ Kd.string.R 9 w base ok v4 x.names := by
  obtain ⟨_, _, rfl, s0, ⟨_, _, rfl, ⟨v4, rfl, g4⟩, rfl⟩⟩ := h
  obtain ⟨v3, rfl, g3⟩ := kTm_openM s0
  exact ⟨v3, v4, rfl, g3, g4⟩
theorem kRd_mk (w : World) (x : Rd) {A3 : Option Addr} {c3 : Nat} (l3 : x.term.args.length ≤ c3) (g3 : kTm.C w A3 x.term.args.length x.term.args) {A4 : Option Addr} {c4 : Nat} (l4 : x.names.length ≤ c4) (g4 : Kd.string.C w A4 x.names.length x.names) : kRd.K w x [.int .i64 x.term.kind, .string x.term.name, .int .i64 x.term.int, .slice A3 x.term.args.length c3, .slice A4 x.names.length c4, .int .i64 x.pos] := ⟨[.int .i64 x.term.kind, .string x.term.name, .int .i64 x.term.int, .slice A3 x.term.args.length c3], [.slice A4 x.names.length c4, .int .i64 x.pos], rfl, (kTm_mk w x.term l3 g3), ⟨[.slice A4 x.names.length c4], [.int .i64 x.pos], rfl, ⟨A4, c4, rfl, l4, g4⟩, rfl⟩⟩
theorem kRd_mkM (w : World) (base : Nat) (ok : Nat → Prop) (x : Rd) {v3 : Value} (g3 : kTm.R 24 w base ok v3 x.term.args) {v4 : Value} (g4 : Kd.string.R 9 w base ok v4 x.names) : kRd.M w base ok x [.int .i64 x.term.kind, .string x.term.name, .int .i64 x.term.int, v3, v4, .int .i64 x.pos] := ⟨[.int .i64 x.term.kind, .string x.term.name, .int .i64 x.term.int, v3], [v4, .int .i64 x.pos], rfl, (kTm_mkM w base ok x.term g3), ⟨[v4], [.int .i64 x.pos], rfl, ⟨v4, rfl, g4⟩, rfl⟩⟩
theorem kRd_openF {W : World} {ok : Nat → Prop} {x : Rd} {cs : List Value} (h : Kd.FK kRd W ok x cs) : ∃ A3 c3 A4 c4, cs = [.int .i64 x.term.kind, .string x.term.name, .int .i64 x.term.int, .slice A3 x.term.args.length c3, .slice A4 x.names.length c4, .int .i64 x.pos] ∧ x.term.args.length ≤ c3 ∧ Kd.F kTm W ok A3 x.term.args.length x.term.args ∧ x.names.length ≤ c4 ∧ Kd.F Kd.string W ok A4 x.names.length x.names := by
  obtain ⟨A3, c3, A4, c4, rfl, l3, _, l4, _⟩ := kRd_open (Kd.FK_now h)
  exact ⟨A3, c3, A4, c4, rfl, l3, (fun W' hW => by obtain ⟨A3_, c3_, A4_, c4_, he, l3_, g3_, l4_, g4_⟩ := kRd_open (h W' hW); injection (Option.some.inj (show some (Value.slice A3 x.term.args.length c3) = some (Value.slice A3_ x.term.args.length c3_) from congrArg (fun l => l[3]?) he)) with ha_ _ _; rw [ha_]; exact g3_), l4, (fun W' hW => by obtain ⟨A3_, c3_, A4_, c4_, he, l3_, g3_, l4_, g4_⟩ := kRd_open (h W' hW); injection (Option.some.inj (show some (Value.slice A4 x.names.length c4) = some (Value.slice A4_ x.names.length c4_) from congrArg (fun l => l[4]?) he)) with ha_ _ _; rw [ha_]; exact g4_)⟩
theorem kRd_mkF (W : World) (ok : Nat → Prop) (x : Rd) {A3 : Option Addr} {c3 : Nat} (l3 : x.term.args.length ≤ c3) (g3 : Kd.F kTm W ok A3 x.term.args.length x.term.args) {A4 : Option Addr} {c4 : Nat} (l4 : x.names.length ≤ c4) (g4 : Kd.F Kd.string W ok A4 x.names.length x.names) : Kd.FK kRd W ok x [.int .i64 x.term.kind, .string x.term.name, .int .i64 x.term.int, .slice A3 x.term.args.length c3, .slice A4 x.names.length c4, .int .i64 x.pos] := fun W2 hW => kRd_mk W2 x l3 (g3 W2 hW) l4 (g4 W2 hW)
def rd_TRd (xs : List Rd) (i : Int) : Rd := xs.getD i.toNat zRd
theorem at_TRd {w : World} {A : Option Addr} {n : Nat} {xs : List Rd} (h : Kd.C kRd w A n xs) (i : Int) (h0 : 0 ≤ i) (h1 : i < n) : ∃ ad A3 c3 A4 c4, A = some ad ∧ w.cell? (ad.add (i.toNat * 6)) = some (.int .i64 (rd_TRd xs i).term.kind) ∧ w.cell? ⟨(ad.add (i.toNat * 6)).block, (ad.add (i.toNat * 6)).off + 1, none⟩ = some (.string (rd_TRd xs i).term.name) ∧ w.cell? ⟨(ad.add (i.toNat * 6)).block, (ad.add (i.toNat * 6)).off + 2, none⟩ = some (.int .i64 (rd_TRd xs i).term.int) ∧ w.cell? ⟨(ad.add (i.toNat * 6)).block, (ad.add (i.toNat * 6)).off + 3, none⟩ = some (.slice A3 (rd_TRd xs i).term.args.length c3) ∧ w.cell? ⟨(ad.add (i.toNat * 6)).block, (ad.add (i.toNat * 6)).off + 4, none⟩ = some (.slice A4 (rd_TRd xs i).names.length c4) ∧ w.cell? ⟨(ad.add (i.toNat * 6)).block, (ad.add (i.toNat * 6)).off + 5, none⟩ = some (.int .i64 (rd_TRd xs i).pos) ∧ (rd_TRd xs i).term.args.length ≤ c3 ∧ kTm.C w A3 (rd_TRd xs i).term.args.length (rd_TRd xs i).term.args ∧ (rd_TRd xs i).names.length ≤ c4 ∧ Kd.string.C w A4 (rd_TRd xs i).names.length (rd_TRd xs i).names := by
  obtain ⟨ad, c, e, _, hK, hc0⟩ := Kd.C_get h zRd i h0 h1
  have hc : ∀ j u, c[j]? = some u → w.cell? (ad.add (i.toNat * 6 + j)) = some u := hc0
  obtain ⟨A3, c3, A4, c4, rfl, l3, g3, l4, g4⟩ := kRd_open hK
  exact ⟨ad, A3, c3, A4, c4, e, hc 0 _ rfl, by rw [← add_field _ _ 1 (by omega)]; exact hc 1 _ rfl, by rw [← add_field _ _ 2 (by omega)]; exact hc 2 _ rfl, by rw [← add_field _ _ 3 (by omega)]; exact hc 3 _ rfl, by rw [← add_field _ _ 4 (by omega)]; exact hc 4 _ rfl, by rw [← add_field _ _ 5 (by omega)]; exact hc 5 _ rfl, l3, g3, l4, g4⟩

end Go.Proofs.YtgidbplaoijalaaGreatRDoor

/- From one world to another: which blocks stay; small words for the walks. -/
namespace Go.Proofs.YtgidbplaoijalaaGreatRDoor
set_option linter.unusedSimpArgs false
open Go.RowKit Go.Proofs.YtgidbplaoijalaaGreatRDoorW.PrintWords
set_option linter.unusedVariables false

theorem hide {p : Prop} (h : p) : Hid p := h

structure Stay (w w' : World) (S : Nat → Prop) : Prop where
  os : w'.os = w.os
  tape : w'.tape = w.tape
  output : w'.output = w.output
  size : w.heap.size ≤ w'.heap.size
  block : ∀ k, k < w.heap.size → ¬ S k → w'.heap[k]? = w.heap[k]?
variable {w w1 w2 : World} {S S' : Nat → Prop}
theorem Stay.refl (w : World) (S : Nat → Prop) : Stay w w S := ⟨rfl, rfl, rfl, Nat.le_refl _, fun _ _ _ => rfl⟩
theorem Stay.trans (h : Stay w w1 S) (k : Stay w1 w2 S') (hs : ∀ b, b < w.heap.size → S' b → S b) : Stay w w2 S :=
  ⟨k.os.trans h.os, k.tape.trans h.tape, k.output.trans h.output, Nat.le_trans h.size k.size, fun b hb hn => (k.block b (Nat.lt_of_lt_of_le hb h.size) (fun e => hn (hs b hb e))).trans (h.block b hb hn)⟩
theorem Stay.alloc (h : Stay w w1 S) (o : Obj) : Stay w (w1.alloc o) S :=
  ⟨h.os, h.tape, h.output, Nat.le_trans h.size (by simp), fun b hb hn => (Below.heap_alloc w1 o b (Nat.lt_of_lt_of_le hb h.size)).trans (h.block b hb hn)⟩
theorem Stay.drew (h : Stay w w1 S) : Stay w w1.drew S := ⟨h.os, h.tape, h.output, h.size, h.block⟩
theorem Stay.drewN (h : Stay w w1 S) (n : Nat) : Stay w (w1.drewN n) S := ⟨h.os, h.tape, h.output, h.size, h.block⟩
theorem Stay.setCell (h : Stay w w1 S) (p : Addr) (u : Value) (hp : p.block < w.heap.size → S p.block) : Stay w (w1.setCell p u) S :=
  ⟨h.os, h.tape, h.output, by simpa [World.setCell] using h.size, fun b hb hn => (Below.heap_setCell w1 p u b (fun e => hn (e ▸ hp (e ▸ hb)))).trans (h.block b hb hn)⟩
theorem Stay.mono (h : Stay w w1 S) (hs : ∀ b, b < w.heap.size → S b → S' b) : Stay w w1 S' := ⟨h.os, h.tape, h.output, h.size, fun b hb hn => h.block b hb (fun e => hn (hs b hb e))⟩
theorem Stay.below (h : Stay w w1 S) (hs : ∀ b, b < w.heap.size → ¬ S b) : Below w.heap.size w w1 := ⟨h.os, h.tape, h.output, h.size, fun b hb => h.block b hb (hs b hb)⟩
theorem Stay.of_below (h : Below w.heap.size w w1) (S : Nat → Prop) : Stay w w1 S := ⟨h.os, h.tape, h.output, h.size, fun b hb _ => h.block b hb⟩
theorem Stay.cell (h : Stay w w1 S) {a : Addr} {v : Value} (hc : w.cell? a = some v) (hn : ¬ S a.block) : w1.cell? a = some v :=
  (World.cell?_of_block (w := w) (h.block a.block (World.block_lt_of_cell? w a hc) hn)).trans hc
theorem Stay.frozen (h : Stay w w1 S) {a : Addr} (hl : a.block < w.heap.size) (hn : ¬ S a.block) : w1.frozen? a = w.frozen? a :=
  World.frozen?_of_block (w := w) (h.block a.block hl hn)
theorem Stay.F {α : Type} {d : Kd α} {ok : Nat → Prop} {A : Option Addr} {n : Nat} {xs : List α} (h : Stay w w1 S) (hf : Kd.F d w ok A n xs) (hn : ∀ b, ok b → ¬ S b) : Kd.F d w1 ok A n xs :=
  Kd.F_step hf (fun k hk hl => h.block k hl (hn k hk))
theorem Stay.set1 (w : World) (b off : Nat) (u : Value) : Stay w (w.setCell ⟨b, off, none⟩ u) (fun k => k = b) := (Stay.refl _ _).setCell _ _ (fun _ => rfl)
theorem Stay.FK {α : Type} {d : Kd α} {ok : Nat → Prop} {x : α} {cs : List Value} (h : Stay w w1 S) (hf : Kd.FK d w ok x cs) (hn : ∀ b, ok b → ¬ S b) : Kd.FK d w1 ok x cs :=
  Foot.step hf (fun k hk hl => h.block k hl (hn k hk))

theorem tm_at {w : World} {ok : Nat → Prop} {A : Option Addr} {n : Nat} {xs : List Tm} (h : Kd.F kTm w ok A n xs) (k : Nat) (x : Tm) (hx : xs[k]? = some x) :
    ∃ ad A3 c3, A = some ad ∧ w.cell? (ad.add (k * 4)) = some (.int .i64 x.kind) ∧ w.cell? ⟨(ad.add (k * 4)).block, (ad.add (k * 4)).off + 1, none⟩ = some (.string x.name) ∧
      w.cell? ⟨(ad.add (k * 4)).block, (ad.add (k * 4)).off + 2, none⟩ = some (.int .i64 x.int) ∧ w.cell? ⟨(ad.add (k * 4)).block, (ad.add (k * 4)).off + 3, none⟩ = some (.slice A3 x.args.length c3) ∧
      x.args.length ≤ c3 ∧ Kd.F kTm w ok A3 x.args.length x.args ∧ ok ad.block := by
  have hl := Kd.F_len h
  obtain ⟨hk, hkx⟩ := List.getElem?_eq_some_iff.1 hx
  obtain ⟨ad, c, rfl, hcl, hF, hcc, hok⟩ := Kd.F_get h x (k : Int) (by omega) (by omega)
  simp only [Int.toNat_natCast, List.getD_eq_getElem?_getD, hx, Option.getD_some] at hF hcc
  have hcc' : ∀ j u, c[j]? = some u → w.cell? (ad.add (k * 4 + j)) = some u := hcc
  obtain ⟨A3, c3, rfl, l3, g3⟩ := kTm_openF hF
  exact ⟨ad, A3, c3, rfl, hcc' 0 _ rfl, by rw [← add_field _ _ 1 (by omega)]; exact hcc' 1 _ rfl, by rw [← add_field _ _ 2 (by omega)]; exact hcc' 2 _ rfl, by rw [← add_field _ _ 3 (by omega)]; exact hcc' 3 _ rfl, l3, g3, hok (by decide)⟩

end Go.Proofs.YtgidbplaoijalaaGreatRDoor

/- strings.Builder, in a block of its own or at the head of another struct: copyCheck, WriteByte, WriteString, String. -/
namespace Go.Proofs.YtgidbplaoijalaaGreatRDoor
set_option linter.unusedSimpArgs false
open Go.RowKit Go.Proofs.YtgidbplaoijalaaGreatRDoorW.PrintWords
set_option linter.unusedVariables false

def b8 (l : List UInt8) : List Value := l.map fun c => .int .u8 (c.toNat : Int)
theorem b8_length (l : List UInt8) : (b8 l).length = l.length := by simp [b8]
theorem b8_append (l m : List UInt8) : b8 (l ++ m) = b8 l ++ b8 m := by simp [b8]
theorem b8_str (s : ByteArray) : Lib.strCells s = b8 s.data.toList := by
  unfold Lib.strCells b8; rfl

/-- What the layout of a builder at the head of a struct of type T (n cells) asks of the program. -/
structure BldT (T n : Nat) : Prop where
  lies : liesAt Tryz.prog Tryz.prog.depth T (n / Tryz.prog.cellsOf T) 0 73 1 = true
  two : 2 ≤ n
  ne : T ≠ 5
theorem bldT_own : BldT 73 2 := ⟨by kernel_rfl, by decide, by decide⟩
theorem sizeBuilder : (Tryz.prog.info? 73).map (·.size) = some 2 := by kernel_rfl
theorem infoByte : (Tryz.prog.info? 5).map (fun i => (i.zero, i.size, i.bytes)) = some (some (.int .u8 0), 1, 1) := by kernel_rfl
theorem cellsByte : Tryz.prog.cellsOf 5 = 1 := by kernel_rfl

/-- A builder at the head of block b (type T, behind it the cells 'rest'), holding the bytes l; its row is block g. -/
structure Bld (T : Nat) (rest : List Value) (b : Nat) (g : Option Nat) (l : List UInt8) (w : World) : Prop where
  ex : ∃ p v, w.heap[b]? = some (.cells (p :: v :: rest).toArray T (0, 0)) ∧ (p = .pointer none ∨ p = .pointer (some ⟨b, 0, none⟩)) ∧ w.ownsRow 0 5 1 v l.length (b8 l) ∧ v.ownBlock = g ∧ (l = [] → v = .slice none 0 0)
  ne : g ≠ some b

theorem cell_of {w : World} {b T : Nat} {cs : List Value} {fr : Nat × Nat} (h : w.heap[b]? = some (.cells cs.toArray T fr)) (j : Nat) (v : Value) (hv : cs[j]? = some v) : w.cell? ⟨b, j, none⟩ = some v := by
  simp [World.cell?, h, hv]
theorem free_of {w : World} {b T : Nat} {cs : Array Value} (h : w.heap[b]? = some (.cells cs T (0, 0))) (j : Nat) : w.frozen? ⟨b, j, none⟩ = false := by
  simp [World.frozen?, h]
theorem lt_of {w : World} {b : Nat} {o : Obj} (h : w.heap[b]? = some o) : b < w.heap.size := (Array.getElem?_eq_some_iff.1 h).1
theorem set_of {w : World} {b T : Nat} {cs : List Value} {fr : Nat × Nat} (h : w.heap[b]? = some (.cells cs.toArray T fr)) (j : Nat) (v : Value) : (w.setCell ⟨b, j, none⟩ v).heap[b]? = some (.cells (cs.set j v).toArray T fr) := by
  simp [World.setCell, Array.getElem?_modify, h]

theorem Bld.lt {T b : Nat} {rest : List Value} {g : Option Nat} {l : List UInt8} {w : World} (h : Bld T rest b g l w) : b < w.heap.size := by
  obtain ⟨⟨p, v, hb, _⟩, _⟩ := h; exact lt_of hb
theorem Bld.row {T b : Nat} {rest : List Value} {g : Option Nat} {l : List UInt8} {w : World} (h : Bld T rest b g l w) (k : Nat) (hk : g = some k) : k < w.heap.size := by
  obtain ⟨⟨p, v, hb, _, ho, hg, _⟩, _⟩ := h; exact own_lt ho k (hg.trans hk)
/-- Another block has turned. -/
theorem Bld.stay {T b : Nat} {rest : List Value} {g : Option Nat} {l : List UInt8} {w w1 : World} {S : Nat → Prop} (h : Bld T rest b g l w) (hs : Stay w w1 S) (hb : ¬ S b) (hg : ∀ k, g = some k → ¬ S k) : Bld T rest b g l w1 := by
  have hlt := h.lt
  have hrow := h.row
  obtain ⟨⟨p, v, hbk, hp, ho, hv, h0⟩, hne⟩ := h
  exact ⟨⟨p, v, (hs.block b hlt hb).trans hbk, hp, own_move ho (fun k hk => hs.block k (hrow k (hv.symm.trans hk)) (hg k (hv.symm.trans hk))), hv, h0⟩, hne⟩
theorem Bld.alloc {T b : Nat} {rest : List Value} {g : Option Nat} {l : List UInt8} {w : World} (h : Bld T rest b g l w) (o : Obj) : Bld T rest b g l (w.alloc o) :=
  h.stay ((Stay.refl w (fun _ => False)).alloc o) (fun e => e) (fun _ _ e => e)
theorem Bld.fresh (T : Nat) (rest : List Value) (w : World) : Bld T rest w.heap.size none [] (w.alloc (.cells (.pointer none :: .slice none 0 0 :: rest).toArray T)) :=
  ⟨⟨_, _, heap_alloc_new w _, .inl rfl, own_nil _ _ _ _, rfl, fun _ => rfl⟩, by simp⟩

set_option maxHeartbeats 1000000 in
set_option maxRecDepth 100000 in
theorem copyCheck_used (b : Nat) (w : World) (h0 : w.cell? ⟨b, 0, none⟩ = some (.pointer (some ⟨b, 0, none⟩))) :
    Calls Tryz.prog 103 #[.pointer (some ⟨b, 0, none⟩)] w fun e w' => e = .returned (.tuple #[]) ∧ w' = w := by
  obtain ⟨j, hj, _⟩ := Option.map_eq_some_iff.1 sizeBuilder
  go_enter Tryz.func103, Tryz.ntmps103
  go_wp2
  rw [Lib.run_neq_ptr_same w _ Tryz.underlying70 hj]
  go_wp2
  go_end0
  exact ⟨rfl, rfl⟩

set_option maxHeartbeats 1000000 in
set_option maxRecDepth 100000 in
theorem copyCheck_fresh {T n : Nat} (X : BldT T n) (b : Nat) (w : World) (h0 : w.cell? ⟨b, 0, none⟩ = some (.pointer none)) (hsh : w.shape? b = some (T, n)) (hfz : w.frozen? ⟨b, 0, none⟩ = false) :
    Calls Tryz.prog 103 #[.pointer (some ⟨b, 0, none⟩)] w fun e w' => e = .returned (.tuple #[]) ∧ w' = w.setCell ⟨b, 0, none⟩ (.pointer (some ⟨b, 0, none⟩)) := by
  obtain ⟨j, hj, hjs⟩ := Option.map_eq_some_iff.1 sizeBuilder
  have htwo := X.two
  go_enter Tryz.func103, Tryz.ntmps103
  go_wp2
  rw [Lib.run_to_unsafe w ⟨b, 0, none⟩ Tryz.underlying70 Tryz.underlying158 hj (by rw [hjs]; decide) hsh (by show 0 < n; omega)]
  simp only [Result.andThen]
  rw [Oper.upon_value]
  go_wp2
  rw [run_callFunc_extern Tryz.func140 (by kernel_rfl) (by kernel_rfl) (by kernel_rfl) (e := Extern.AbiNoEscape.same) (by kernel_rfl)]
  rw [Lib.run_noEscape]
  simp only [Result.andThen]
  rw [Oper.upon_value]
  go_wp2
  rw [Lib.run_from_unsafe w ⟨b, 0, none⟩ Tryz.underlying158 Tryz.underlying70 hj hsh X.lies]
  simp only [Result.andThen]
  rw [Oper.upon_value]
  go_wp2
  go_end0
  exact ⟨rfl, rfl⟩

theorem copyCheck_any {T n : Nat} (X : BldT T n) (rest : List Value) (hn : rest.length + 2 = n) (b : Nat) (g : Option Nat) (l : List UInt8) (w : World) (h : Bld T rest b g l w) :
    Calls Tryz.prog 103 #[.pointer (some ⟨b, 0, none⟩)] w fun e w' => e = .returned (.tuple #[]) ∧
      (∃ v, w'.heap[b]? = some (.cells (.pointer (some ⟨b, 0, none⟩) :: v :: rest).toArray T (0, 0)) ∧ w'.ownsRow 0 5 1 v l.length (b8 l) ∧ v.ownBlock = g ∧ (l = [] → v = .slice none 0 0)) ∧ Stay w w' (fun k => k = b) ∧ w'.heap.size = w.heap.size := by
  obtain ⟨⟨p, v, hb, hp, ho, hg, h0⟩, hne⟩ := h
  rcases hp with rfl | rfl
  · refine (copyCheck_fresh X b w (cell_of hb 0 _ rfl) (by simp [World.shape?, hb]; omega) (free_of hb 0)).mono ?_
    rintro e w' ⟨rfl, rfl⟩
    refine ⟨rfl, ⟨v, set_of hb 0 _, own_move ho (fun k hk => Below.heap_setCell w _ _ k (fun e => hne (by rw [← hg, hk, e]))), hg, h0⟩, Stay.set1 _ _ _ _, by simp [World.setCell]⟩
  · refine (copyCheck_used b w (cell_of hb 0 _ rfl)).mono ?_
    rintro e w' ⟨rfl, rfl⟩
    exact ⟨rfl, ⟨v, hb, ho, hg, h0⟩, Stay.refl _ _, rfl⟩

set_option maxHeartbeats 2000000 in
set_option maxRecDepth 100000 in
theorem writeByte_any {T n : Nat} (X : BldT T n) (rest : List Value) (hn : rest.length + 2 = n) (b : Nat) (g : Option Nat) (l : List UInt8) (c : UInt8) (x : Int) (hx : x = c.toNat) (w : World) (h : Bld T rest b g l w) (hlen : l.length + 1 ≤ 140737488355328) :
    Calls Tryz.prog 69 #[.pointer (some ⟨b, 0, none⟩), .int .u8 x] w fun e w' => e = .returned .nilIface ∧
      ∃ g', Bld T rest b g' (l ++ [c]) w' ∧ Stay w w' (fun k => k = b ∨ some k = g) ∧ (g' = g ∨ ∃ k, g' = some k ∧ w.heap.size ≤ k) := by
  have hblt := h.lt
  obtain ⟨i0, hi, hz0, hz1, hz2⟩ := info_parts infoByte
  have hnb := h.ne
  go_enter Tryz.func69, Tryz.ntmps69
  go_wp2_with fail
  refine (copyCheck_any X rest hn b g l w h).mono ?_
  rintro e w1 ⟨rfl, ⟨v, hbk, hown, hg, h0⟩, hs1, hsz1⟩
  have Hs1 := hide hs1
  have Hg := hide hg
  have H0 := hide h0
  have c1 : w1.cell? ⟨b, 1, none⟩ = some v := cell_of hbk 1 _ rfl
  have Hbk := hide hbk
  have Hsz := hide hsz1
  clear hs1 hg h0 h hbk hsz1
  have hblt1 : b < w1.heap.size := by rw [Hsz.out]; exact hblt
  have Hx := hide hx
  clear hx
  go_wp2_with (at_builtin; refine print_append (w0 := w1) 0 rfl _ _ 71 5 (.int .u8 0) 1 rfl Tryz.underlying71 infoByte rfl (by decide) v (b8 l) (.int .u8 x) rfl rfl rfl (by rw [b8_length]; exact hown) (Below.refl _ _) (Nat.zero_le _) (by rw [b8_length]; omega) ?_)
  intro v2 w2 hown2 hbel2 hgr2 hat2
  have hb2 : w2.heap[b]? = some (.cells (.pointer (some ⟨b, 0, none⟩) :: v :: rest).toArray T (0, 0)) := by
    rw [hgr2.block b hblt1 (fun e => hnb (by rw [← Hg.out, e]))]; exact Hbk.out
  have d1 : w2.cell? ⟨b, 1, none⟩ = some v := cell_of hb2 1 _ rfl
  have f1 : w2.frozen? ⟨b, 1, none⟩ = false := free_of hb2 1
  have hc8 : b8 l ++ [.int .u8 x] = b8 (l ++ [c]) := by rw [b8_append, Hx.out]; rfl
  have hl8 : (b8 l).length + 1 = (l ++ [c]).length := by simp [b8_length]
  rw [hl8, hc8] at hown2
  obtain ⟨A2, n2, c2, rfl⟩ : ∃ A n c, v2 = .slice A n c := by
    obtain ⟨A, c, h⟩ := own_slice hown2; exact ⟨A, _, c, h⟩
  have Hat2 := hide hat2
  have Hgr2 := hide hgr2
  have Hb2 := hide hb2
  have Hown2 := hide hown2
  clear hat2 hgr2 hb2 hown2 hbel2 hl8 hc8 Hx
  go_wp2
  go_ret
  have hne2 : (Value.slice A2 n2 c2).ownBlock ≠ some b := by
    rcases Hat2.out with e | ⟨k, e, hk⟩
    · rw [e, Hg.out]; exact hnb
    · rw [e]; intro h; injection h with h; omega
  refine ⟨rfl, (Value.slice A2 n2 c2).ownBlock, ⟨⟨_, _, set_of Hb2.out 1 _, .inr rfl, own_move Hown2.out (fun k hk => Below.heap_setCell _ _ _ k (fun e => hne2 (by rw [hk, e]))), rfl, fun h => by simp at h⟩, hne2⟩, ?_, ?_⟩
  · refine ((Hs1.out.mono (fun _ _ h => .inl h)).trans (S' := fun k => some k = g) ⟨Hgr2.out.os, Hgr2.out.tape, Hgr2.out.output, Hgr2.out.size, fun k hk hn => Hgr2.out.block k hk (fun e => hn (by rw [e, Hg.out]))⟩ (fun _ _ h => .inr h)).setCell _ _ (fun _ => .inl rfl)
  · rcases Hat2.out with e | ⟨k, e, hk⟩
    · exact .inl (e.trans Hg.out)
    · exact .inr ⟨k, e, by have := Hsz.out; omega⟩

/-- append(b, s...): the library's law, with where the new row lies. -/
theorem run_append_str_at {P : Program} (w : World) (base : Nat) (t u ty e : TypeId) (i : TypeInfo) (ht : P.underlying t = some (.slice e)) (hu : P.underlying u = some .string) (hi : P.info? e = some i) (hz : i.zero = some (.int .u8 0))
    (hsize : i.size = 1) (hby : i.bytes = 1)
    (v : Value) (n : Nat) (xs : List Value) (hown : w.ownsRow base e 1 v n xs) (s : ByteArray) (hs0 : 1 ≤ s.size)
    (hbytes : n + s.size ≤ 140737488355328) (hbase : base ≤ w.heap.size) :
    ∃ v' w', (Builtin.append_ #[t, u] ty #[v, .string s]).run P w = .ok v' w' ∧ w'.ownsRow base e 1 v' (n + s.size) (xs ++ Lib.strCells s) ∧ w.grownBy w' v.ownBlock ∧
      (v'.ownBlock = v.ownBlock ∨ v'.ownBlock = some w.heap.size) := by
  have h63 : n + s.size ≤ maxLen := by simp only [maxLen]; omega
  obtain ⟨v', w', hr, h1, h2, h3⟩ := Lib.run_append_own_string (P := P) w base t u ty e i ht hu hi hz hsize hby v n xs hown s h63 hbytes hbase
  refine ⟨v', w', hr, h1, h2, ?_⟩
  have hxl : xs.length = n := by simpa using hown.1
  rcases hown.2 with ⟨rfl, rfl⟩ | ⟨g, cap, cur, rfl, hbg, hg, hnc, hcm, hcs, htake⟩
  · have hr2 := run_append_nil_string (P := P) w t u ty e i (.int .u8 0) ht hu hi hz s (by omega) (by omega) (by rw [hby]; omega)
    rw [hr] at hr2
    injection hr2 with hv _
    rw [hv]; exact .inr rfl
  · by_cases hroom : n + s.size ≤ cap
    · have hr2 := Lib.run_append_room_string (P := P) w t u ty e i ht hu hi hsize g n cap cur hg s hroom (by omega)
      rw [hr] at hr2
      injection hr2 with hv _
      rw [hv]; exact .inl rfl
    · have hr2 := Lib.run_append_grow_string (P := P) w t u ty e i (.int .u8 0) ht hu hi hz ⟨g, 0, none⟩ n cap xs (by rw [hsize]; simpa using hxl) (hown.cells (g := g) rfl) s (by omega) (by simp only [maxLen] at h63; omega) (by rw [hby]; exact growslice_fits (by omega) (by omega))
      rw [hr] at hr2
      injection hr2 with hv _
      rw [hv]; exact .inr rfl
theorem wpList_append_str_at {P : Program} {w : World} {ops : Array Oper} {rest : List Oper} {o : Oper} {a : Act} {Q : Exit → Act → World → Prop} (hgd : o.guard = none) (sl x : Operand) (t u : TypeId)
    (ho : o.op = .call { callee := .builtin .append, args := #[sl, x], argTypes := #[t, u] })
    (base : Nat) (e : TypeId) (i : TypeInfo) (ht : P.underlying t = some (.slice e)) (hu : P.underlying u = some .string) (hi : P.info? e = some i) (hz : i.zero = some (.int .u8 0))
    (hsize : i.size = 1) (hby : i.bytes = 1)
    (v : Value) (n : Nat) (xs : List Value) (hs : a.eval sl = v) (hown : w.ownsRow base e 1 v n xs) (s : ByteArray) (hx : a.eval x = .string s) (hs0 : 1 ≤ s.size)
    (hbytes : n + s.size ≤ 140737488355328) (hbase : base ≤ w.heap.size)
    (h : ∀ v' w', w'.ownsRow base e 1 v' (n + s.size) (xs ++ Lib.strCells s) → w.grownBy w' v.ownBlock → (v'.ownBlock = v.ownBlock ∨ v'.ownBlock = some w.heap.size) → wpList P ops Q rest (a.put o.dst v') w') : wpList P ops Q (o :: rest) a w := by
  refine wpList_plain hgd fun K hK => ?_
  obtain ⟨v', w', hr, h2, h3, h4⟩ := run_append_str_at (P := P) w base t u o.type e i ht hu hi hz hsize hby v n xs hown s hs0 hbytes hbase
  unfold Oper.wp execOp
  simp only [ho, resolve, invoke, builtin, Sem.run_bind, Sem.run_pure, Result.andThen_ok, List.map_toArray, List.map_cons, List.map_nil, hs, hx, hr]
  exact hK _ _ (h v' w' h2 h3 h4)

set_option maxHeartbeats 2000000 in
set_option maxRecDepth 100000 in
theorem writeString_any {T n : Nat} (X : BldT T n) (rest : List Value) (hn : rest.length + 2 = n) (b : Nat) (g : Option Nat) (l : List UInt8) (s : ByteArray) (w : World) (h : Bld T rest b g l w) (hs0 : 1 ≤ s.size) (hlen : l.length + s.size ≤ 140737488355328) :
    Calls Tryz.prog 70 #[.pointer (some ⟨b, 0, none⟩), .string s] w fun e w' => e = .returned (.tuple #[.int .i64 s.size, .nilIface]) ∧
      ∃ g', Bld T rest b g' (l ++ s.data.toList) w' ∧ Stay w w' (fun k => k = b ∨ some k = g) ∧ (g' = g ∨ ∃ k, g' = some k ∧ w.heap.size ≤ k) := by
  have hblt := h.lt
  obtain ⟨i0, hi, hz0, hz1, hz2⟩ := info_parts infoByte
  have hnb := h.ne
  go_enter Tryz.func70, Tryz.ntmps70
  go_wp2_with fail
  refine (copyCheck_any X rest hn b g l w h).mono ?_
  rintro e w1 ⟨rfl, ⟨v, hbk, hown, hg, h0⟩, hs1, hsz1⟩
  have Hs1 := hide hs1
  have Hg := hide hg
  have H0 := hide h0
  have c1 : w1.cell? ⟨b, 1, none⟩ = some v := cell_of hbk 1 _ rfl
  have Hbk := hide hbk
  have Hsz := hide hsz1
  clear hs1 hg h0 h hbk hsz1
  have hblt1 : b < w1.heap.size := by rw [Hsz.out]; exact hblt
  have hl0 := b8_length l
  have Hl0 := hide hl0
  clear hl0
  go_wp2_with (at_builtin; refine wpList_append_str_at rfl _ _ 71 9 rfl 0 5 i0 Tryz.underlying71 Tryz.underlying9 hi hz0 hz1 hz2 v l.length (b8 l) rfl hown s rfl hs0 hlen (Nat.zero_le _) ?_)
  intro v2 w2 hown2 hgr2 hat2
  have hb2 : w2.heap[b]? = some (.cells (.pointer (some ⟨b, 0, none⟩) :: v :: rest).toArray T (0, 0)) := by
    rw [hgr2.block b hblt1 (fun e => hnb (by rw [← Hg.out, e]))]; exact Hbk.out
  have d1 : w2.cell? ⟨b, 1, none⟩ = some v := cell_of hb2 1 _ rfl
  have f1 : w2.frozen? ⟨b, 1, none⟩ = false := free_of hb2 1
  have hc8 : b8 l ++ Lib.strCells s = b8 (l ++ s.data.toList) := by rw [b8_append, b8_str]
  have hl8 : l.length + s.size = (l ++ s.data.toList).length := by rw [List.length_append, Array.length_toList]; rfl
  rw [hl8, hc8] at hown2
  obtain ⟨A2, n2, c2, rfl⟩ : ∃ A n c, v2 = .slice A n c := by
    obtain ⟨A, c, h⟩ := own_slice hown2; exact ⟨A, _, c, h⟩
  have Hat2 := hide hat2
  have Hgr2 := hide hgr2
  have Hb2 := hide hb2
  have Hown2 := hide hown2
  clear hat2 hgr2 hb2 hown2 hl8 hc8
  go_wp2
  go_ret2
  have hne2 : (Value.slice A2 n2 c2).ownBlock ≠ some b := by
    rcases Hat2.out with e | e
    · rw [e, Hg.out]; exact hnb
    · rw [e]; intro h; injection h with h; omega
  refine ⟨rfl, (Value.slice A2 n2 c2).ownBlock, ⟨⟨_, _, set_of Hb2.out 1 _, .inr rfl, own_move Hown2.out (fun k hk => Below.heap_setCell _ _ _ k (fun e => hne2 (by rw [hk, e]))), rfl, fun h => ?_⟩, hne2⟩, ?_, ?_⟩
  · exfalso
    have h3 := congrArg List.length (List.append_eq_nil_iff.1 h).2
    rw [Array.length_toList] at h3
    exact absurd hs0 (by rw [show s.size = 0 from h3]; decide)
  · refine ((Hs1.out.mono (fun _ _ h => .inl h)).trans (S' := fun k => some k = g) ⟨Hgr2.out.os, Hgr2.out.tape, Hgr2.out.output, Hgr2.out.size, fun k hk hn => Hgr2.out.block k hk (fun e => hn (by rw [e, Hg.out]))⟩ (fun _ _ h => .inr h)).setCell _ _ (fun _ => .inl rfl)
  · rcases Hat2.out with e | e
    · exact .inl (e.trans Hg.out)
    · exact .inr ⟨w1.heap.size, e, by have := Hsz.out; omega⟩

theorem Stay.freeze {w w1 : World} {S : Nat → Prop} (h : Stay w w1 S) (p : Addr) (n : Nat) (hp : S p.block) : Stay w (w1.freeze p n) S := by
  unfold World.freeze
  split
  · exact h
  · refine ⟨h.os, h.tape, h.output, by simpa using h.size, fun k hk hn => ?_⟩
    rw [← h.block k hk hn]
    simp only [Array.getElem?_modify]
    rw [if_neg (fun e => hn (by rw [← e]; exact hp))]

set_option maxHeartbeats 1000000 in
set_option maxRecDepth 100000 in
theorem string_any {T n : Nat} (X : BldT T n) (rest : List Value) (hn : rest.length + 2 = n) (b : Nat) (g : Option Nat) (l : List UInt8) (w : World) (h : Bld T rest b g l w) (h0 : l ≠ []) :
    Calls Tryz.prog 40 #[.pointer (some ⟨b, 0, none⟩)] w fun e w' => e = .returned (.string ⟨l.toArray⟩) ∧ Stay w w' (fun k => some k = g) := by
  have hne := h.ne
  obtain ⟨⟨p, v, hb, hp, hown, hg, _⟩, _⟩ := h
  have hl0 : l.length ≠ 0 := by simpa using h0
  obtain ⟨q, cap, cur, rfl, hq, hnc, hcm, hcs, htake⟩ : ∃ q cap cur, v = .slice (some ⟨q, 0, none⟩) l.length cap ∧ w.heap[q]? = some (.cells cur 5 (0, 0)) ∧ l.length ≤ cap ∧ cap ≤ maxLen ∧ cur.size = cap * 1 ∧ cur.toList.take (l.length * 1) = b8 l := by
    rcases hown.2 with ⟨_, hz⟩ | ⟨q, cap, cur, hv, _, r⟩
    · exact absurd hz hl0
    · exact ⟨q, cap, cur, hv, r⟩
  have hgq : g = some q := by rw [← hg]; simp [Value.ownBlock]
  subst hgq
  have c1 : w.drew.cell? ⟨b, 1, none⟩ = some (.slice (some ⟨q, 0, none⟩) l.length cap) := cell_of (w := w.drew) hb 1 _ rfl
  have hSD : (Builtin.unsafeSliceData_ #[71] 131 #[.slice (some ⟨q, 0, none⟩) l.length cap]).run Tryz.prog w.drew = .ok (.pointer (some ⟨q, 0, none⟩)) w.drew :=
    Lib.run_unsafeSliceData_row _ _ _ _ _ _ (by omega)
  have hUS : (Builtin.unsafeString_ #[131, 3] 9 #[.pointer (some ⟨q, 0, none⟩), .int .i64 l.length]).run Tryz.prog w.drew = .ok (.string ⟨l.toArray⟩) (w.drew.freeze ⟨q, 0, none⟩ l.length) := by
    refine Lib.run_unsafeString_row w.drew 131 3 9 5 Tryz.underlying131 cellsByte q cur.size (by have hg' : w.drew.heap[q]? = some (.cells cur 5 (0, 0)) := hq; simp [World.shape?, hg']) l h0 (by omega) (by unfold maxLen at hcm; omega) ?_
    intro j x hx
    have := hown.cells (g := q) rfl j (.int .u8 x.toNat) (by simp [b8, hx])
    exact this
  clear hl0 hg hown hq hnc hcm hcs htake hp
  go_enter Tryz.func40, Tryz.ntmps40
  go_wp2
  go_region
  all_goals
    go_wp2
    go_ret
    refine ⟨rfl, ?_⟩
    exact Stay.freeze (Stay.drew (Stay.refl _ _)) ⟨q, 0, none⟩ _ rfl

set_option maxHeartbeats 1000000 in
set_option maxRecDepth 100000 in
theorem string_nil {T n : Nat} (X : BldT T n) (rest : List Value) (hn : rest.length + 2 = n) (b : Nat) (g : Option Nat) (w : World) (h : Bld T rest b g [] w) :
    Calls Tryz.prog 40 #[.pointer (some ⟨b, 0, none⟩)] w fun e w' => e = .returned (.string ⟨#[]⟩) ∧ Stay w w' (fun _ => False) := by
  obtain ⟨⟨p, v, hb, hp, hown, hg, h0⟩, _⟩ := h
  obtain rfl := h0 rfl
  have hUS : ∀ W : World, (Builtin.unsafeString_ #[131, 3] 9 #[.pointer none, .int .i64 0]).run Tryz.prog W = .ok (.string .empty) W := fun W => Lib.run_unsafeString_none W _ _ _ none
  have c1 : w.drew.cell? ⟨b, 1, none⟩ = some (.slice none 0 0) := cell_of (w := w.drew) hb 1 _ rfl
  have hSD : (Builtin.unsafeSliceData_ #[71] 131 #[.slice none 0 0]).run Tryz.prog w.drew = .ok (.pointer none) w.drew := rfl
  clear hg hown h0 hp
  go_enter Tryz.func40, Tryz.ntmps40
  go_wp2
  go_region
  all_goals
    go_wp2
    go_ret
    exact ⟨rfl, Stay.drew (Stay.refl _ _)⟩
end Go.Proofs.YtgidbplaoijalaaGreatRDoor

/- Package lex in plain Lean: a text's tokens, on the list of bytes that is left. -/
namespace Go.Proofs.YtgidbplaoijalaaGreatRDoor
set_option linter.unusedSimpArgs false
set_option linter.unusedVariables false

def bs (l : List UInt8) : ByteArray := ⟨l.toArray⟩
theorem bs_size (l : List UInt8) : (bs l).size = l.length := by simp [bs, ByteArray.size]
theorem bs_list (l : List UInt8) : (bs l).data.toList = l := by simp [bs]
theorem bs_of (s : ByteArray) : bs s.data.toList = s := by simp [bs]

/-! The kinds of bytes, as numbers. -/
def blankB (c : Int) : Bool := c == 9 || c == 10 || c == 13 || c == 32
def digitB (c : Int) : Bool := decide (48 ≤ c) && decide (c ≤ 57)
def smallB (c : Int) : Bool := decide (97 ≤ c) && decide (c ≤ 122)
def capB (c : Int) : Bool := decide (65 ≤ c) && decide (c ≤ 90) || c == 95
def letterB (c : Int) : Bool := smallB c || capB c || digitB c
def signsL : List UInt8 := [43, 45, 42, 47, 92, 94, 60, 62, 61, 126, 58, 46, 63, 64, 35, 38, 36]
def signB (c : UInt8) : Bool := signsL.contains c
def punctL : List UInt8 := [40, 41, 91, 93, 123, 125, 44, 124]
def punctB (c : UInt8) : Bool := punctL.contains c
def n8 (c : UInt8) : Int := (c.toNat : Int)
/-- The byte so many behind the place, 0 behind the end. -/
def pk (r : List UInt8) (n : Nat) : Int := n8 (r.getD n 0)

/-- How many bytes at the head are such. -/
def runS (p : Int → Bool) : List UInt8 → Nat
  | [] => 0
  | c :: r => if p (n8 c) then runS p r + 1 else 0

def shiftE {α : Type} (k : Nat) : Except Nat (α × Nat) → Except Nat (α × Nat)
  | .ok (x, n) => .ok (x, n + k)
  | .error e => .error (e + k)

/-- Blanks and remarks: how many bytes; where a remark opens that doesn't end. -/
def skipS : Nat → List UInt8 → Except Nat (Unit × Nat)
  | 0, _ => .ok ((), 0)
  | _ + 1, [] => .ok ((), 0)
  | f + 1, c :: r =>
    if blankB (n8 c) then shiftE 1 (skipS f r)
    else if n8 c = 37 then let n := runS (fun x => x != 10) (c :: r); shiftE n (skipS f ((c :: r).drop n))
    else if n8 c = 47 ∧ pk (c :: r) 1 = 42 then
      let n := Lib.index (r.drop 1) [42, 47]
      if n < 0 then .error 0 else shiftE (n.toNat + 4) (skipS f ((c :: r).drop (n.toNat + 4)))
    else .ok ((), 0)

/-- What stands behind a \ (r begins at the \ ): its byte; none: the text ends; some false: no such escape. -/
def escS (r : List UInt8) : Except Bool UInt8 :=
  if r.length ≤ 1 then .error true
  else if pk r 1 = 110 then .ok 10
  else if pk r 1 = 116 then .ok 9
  else if pk r 1 = 92 ∨ pk r 1 = 39 ∨ pk r 1 = 34 then .ok (r.getD 1 0)
  else .error false

/-- A quoted name behind its opening quote: its bytes, how many bytes it takes; o: the quote's place, p: the place. -/
def quotS : Nat → List UInt8 → Int → Int → Except (Int × Int) (List UInt8 × Nat)
  | 0, _, _, _ => .ok ([], 0)
  | _ + 1, [], o, _ => .error (81, o)
  | f + 1, c :: r, o, p =>
    if n8 c = 39 ∧ ¬ pk (c :: r) 1 = 39 then .ok ([], 1)
    else if n8 c = 39 then (quotS f (r.drop 1) o (p + 2)).map fun q => (c :: q.1, q.2 + 2)
    else if 32 ≤ n8 c ∧ n8 c ≤ 126 ∧ ¬ n8 c = 92 then (quotS f r o (p + 1)).map fun q => (c :: q.1, q.2 + 1)
    else if n8 c = 92 then
      match escS (c :: r) with
      | .error true => .error (81, o)
      | .error false => .error (82, p)
      | .ok x => (quotS f (r.drop 1) o (p + 2)).map fun q => (x :: q.1, q.2 + 2)
    else .error (80, p)

/-- 0' and a byte. -/
def codeS (r : List UInt8) (p : Int) : Except (Int × Int) (Int × Nat) :=
  let q := r.drop 2
  if q.length = 0 ∨ pk q 0 = 39 ∧ q.length ≤ 1 then .error (81, p)
  else if pk q 0 = 92 then
    match escS q with
    | .error true => .error (81, p)
    | .error false => .error (82, p + 2)
    | .ok x => .ok (n8 x, 4)
  else if pk q 0 = 39 ∧ ¬ pk q 1 = 39 ∨ pk q 0 < 32 ∨ 126 < pk q 0 then .error (80, p + 2)
  else if pk q 0 = 39 then .ok (39, 4)
  else .ok (pk q 0, 3)

/-- The number that digits write. -/
def decS (l : List UInt8) : Nat := l.foldl (fun a c => a * 10 + (c.toNat - 48)) 0

def numS (r : List UInt8) (p : Int) : Except (Int × Int) (Int × Nat) :=
  if pk r 0 = 48 ∧ pk r 1 = 39 then codeS r p
  else
    let n := runS digitB r
    if 9223372036854775807 < decS (r.take n) then .error (83, p) else .ok ((decS (r.take n) : Int), n)

/-- How many signs stand here, up to a remark. -/
def symS : List UInt8 → Nat
  | [] => 0
  | c :: r => if signB c && !(n8 c == 47 && pk (c :: r) 1 == 42) then symS r + 1 else 0

/-- One token, at a place p: and how many bytes it takes. -/
def tokS (r : List UInt8) (p : Int) : Except (Int × Int) (Tok × Nat) :=
  let c := r.getD 0 0
  if smallB (n8 c) then let n := runS letterB r; .ok (⟨1, bs (r.take n), 0, p, false, false⟩, n)
  else if capB (n8 c) then let n := runS letterB r; .ok (⟨2, bs (r.take n), 0, p, false, false⟩, n)
  else if digitB (n8 c) then (numS r p).map fun q => (⟨3, bs (r.take q.2), q.1, p, false, false⟩, q.2)
  else if punctB c then .ok (⟨4, bs (r.take 1), 0, p, false, false⟩, 1)
  else if n8 c = 33 ∨ n8 c = 59 then .ok (⟨1, bs (r.take 1), 0, p, false, false⟩, 1)
  else if n8 c = 39 then (quotS (r.length + 1) (r.drop 1) p (p + 1)).map fun q => (⟨1, bs q.1, 0, p, true, false⟩, q.2 + 1)
  else if n8 c = 46 ∧ (r.length = 1 ∨ blankB (pk r 1) = true ∨ pk r 1 = 37) then .ok (⟨5, bs (r.take 1), 0, p, false, false⟩, 1)
  else if signB c then let n := symS r; .ok (⟨1, bs (r.take n), 0, p, false, false⟩, n)
  else .error (80, p)

/-- Tokens from a place on. -/
def toksS : Nat → List UInt8 → Int → Bool → Except (Int × Int) (List Tok)
  | 0, _, _, _ => .ok []
  | f + 1, r, p, first =>
    match skipS (r.length + 1) r with
    | .error e => .error (81, p + e)
    | .ok (_, n) =>
      if r.drop n = [] then .ok []
      else match tokS (r.drop n) (p + n) with
        | .error e => .error e
        | .ok (t, m) =>
          if (t.kind = 1 ∨ t.kind = 2) ∧ 64 < t.text.size then .error (2, t.pos)
          else (toksS f ((r.drop n).drop m) (p + n + m) false).map fun ts => { t with apart := decide (0 < n) || first } :: ts

/-- lex.Tokens. -/
def tokensS (s : ByteArray) : Except (Int × Int) (List Tok) :=
  if 16384 < s.size then .error (2, 0) else toksS (s.size + 1) s.data.toList 0 true

/-- lex.Bare. -/
def bareS (s : ByteArray) : Bool :=
  match tokensS s with
  | .ok [t] => t.kind == 1 && !t.quoted && t.text.data.toList == s.data.toList
  | _ => false
end Go.Proofs.YtgidbplaoijalaaGreatRDoor

/- The walks of package lex, 1: bytes' kinds, the places of a scan. -/
namespace Go.Proofs.YtgidbplaoijalaaGreatRDoor
set_option linter.unusedSimpArgs false
open Go.RowKit Go.Proofs.YtgidbplaoijalaaGreatRDoorW.PrintWords
set_option linter.unusedVariables false

/-- A scan that is under way. -/
def Scan (b : Nat) (s : ByteArray) (p : Nat) (v : Value) (w : World) : Prop := w.heap[b]? = some (.cells [.string s, .int .i64 (p : Int), v].toArray 135 (0, 0))
theorem Scan.c0 {b p : Nat} {s : ByteArray} {v : Value} {w : World} (h : Scan b s p v w) : w.cell? ⟨b, 0, none⟩ = some (.string s) := cell_of h 0 _ rfl
theorem Scan.c1 {b p : Nat} {s : ByteArray} {v : Value} {w : World} (h : Scan b s p v w) : w.cell? ⟨b, 1, none⟩ = some (.int .i64 (p : Int)) := cell_of h 1 _ rfl
theorem Scan.c2 {b p : Nat} {s : ByteArray} {v : Value} {w : World} (h : Scan b s p v w) : w.cell? ⟨b, 2, none⟩ = some v := cell_of h 2 _ rfl
theorem Scan.fr {b p : Nat} {s : ByteArray} {v : Value} {w : World} (h : Scan b s p v w) (j : Nat) : w.frozen? ⟨b, j, none⟩ = false := free_of h j
theorem Scan.lt {b p : Nat} {s : ByteArray} {v : Value} {w : World} (h : Scan b s p v w) : b < w.heap.size := lt_of h
theorem Scan.stay {b p : Nat} {s : ByteArray} {v : Value} {w w1 : World} {S : Nat → Prop} (h : Scan b s p v w) (hs : Stay w w1 S) (hn : ¬ S b) : Scan b s p v w1 := (hs.block b h.lt hn).trans h
theorem Scan.drewN {b p : Nat} {s : ByteArray} {v : Value} {w : World} (h : Scan b s p v w) (n : Nat) : Scan b s p v (w.drewN n) := h
theorem Scan.set {b p : Nat} {s : ByteArray} {v : Value} {w : World} (h : Scan b s p v w) (q : Nat) (x : Int) (hx : x = q) : Scan b s q v (w.setCell ⟨b, 1, none⟩ (.int .i64 x)) := by
  subst hx
  exact set_of h 1 _

/-- The rest of the text at a place. -/
def rest (s : ByteArray) (p : Nat) : List UInt8 := s.data.toList.drop p
theorem size_list (s : ByteArray) : s.data.toList.length = s.size := Array.length_toList
theorem rest_length (s : ByteArray) (p : Nat) : (rest s p).length = s.size - p := by unfold rest; rw [List.length_drop, size_list]
theorem pk_rest (s : ByteArray) (p n : Nat) (h : p + n < s.size) : ((s[p + n]'h).toNat : Int) = pk (rest s p) n := by
  have h2 : p + n < s.data.toList.length := by rw [size_list]; exact h
  unfold pk n8 rest
  rw [List.getD_eq_getElem?_getD, List.getElem?_drop, List.getElem?_eq_getElem h2]
  rfl
theorem pk_out (s : ByteArray) (p n : Nat) (h : s.size ≤ p + n) : pk (rest s p) n = 0 := by
  have h2 : s.data.toList.length ≤ p + n := by rw [size_list]; exact h
  unfold pk n8 rest
  rw [List.getD_eq_getElem?_getD, List.getElem?_drop, List.getElem?_eq_none h2]
  rfl
theorem extract_rest (s : ByteArray) (i j : Nat) : s.extract i j = bs ((rest s i).take (j - i)) := by
  have h : (s.extract i j).data.toList = (rest s i).take (j - i) := by
    unfold rest
    rw [ByteArray.data_extract, Array.toList_extract, List.extract_eq_take_drop]
  rw [← h, bs_of]
theorem slice_at (s : ByteArray) (i j : Nat) (h1 : i ≤ j) (h2 : j ≤ s.size) (W : World) : (Instr.slice 9 (.string s) (some (.int .i64 (i : Int))) (some (.int .i64 (j : Int))) none).run Tryz.prog W = .ok (.string (bs ((rest s i).take (j - i)))) W := by
  have h := run_slice_string (P := Tryz.prog) (w := W) 9 s .i64 .i64 i j Tryz.underlying9 (by omega) (by omega) (by omega)
  rw [h, Int.toNat_natCast, Int.toNat_natCast, extract_rest]
theorem pk_range (r : List UInt8) (n : Nat) : 0 ≤ pk r n ∧ pk r n ≤ 255 := by
  unfold pk n8
  have := (r.getD n 0).toNat_lt
  omega

/-- Only orders have been drawn. -/
def Quiet (w w' : World) : Prop := ∃ n, w' = w.drewN n
theorem Quiet.stay {w w' : World} (h : Quiet w w') (S : Nat → Prop) : Stay w w' S := by
  obtain ⟨n, rfl⟩ := h
  exact (Stay.refl _ _).drewN n

theorem Quiet.refl (w : World) : Quiet w w := ⟨0, rfl⟩
theorem Quiet.step {w w1 : World} (h : Quiet w w1) (n : Nat) : Quiet w (w1.drewN n) := by
  obtain ⟨m, rfl⟩ := h
  exact ⟨m + n, World.drewN_drewN ..⟩

set_option maxHeartbeats 400000 in
theorem ended_any (b p : Nat) (s : ByteArray) (v : Value) (w : World) (h : Scan b s p v w) :
    Calls Tryz.prog 77 #[.pointer (some ⟨b, 0, none⟩)] w fun e w' => e = .returned (.bool (decide (s.size ≤ p))) ∧ Quiet w w' := by
  have c0 := h.c0
  have c1 := h.c1
  have H := hide h
  clear h
  go_enter Tryz.func77, Tryz.ntmps77
  go_wp2_with fail
  go_quiet (fail)
  go_wp2_with fail
  go_ret
  exact ⟨rfl, by repeat (first | exact Quiet.refl _ | refine Quiet.step ?_ _)⟩

theorem ended_yes (b p : Nat) (s : ByteArray) (v : Value) (w : World) (h : Scan b s p v w) (hp : s.size ≤ p) :
    Calls Tryz.prog 77 #[.pointer (some ⟨b, 0, none⟩)] w fun e w' => e = .returned (.bool true) ∧ Quiet w w' := by
  have := ended_any b p s v w h
  rwa [show decide (s.size ≤ p) = true from by simp; omega] at this
theorem ended_no (b p : Nat) (s : ByteArray) (v : Value) (w : World) (h : Scan b s p v w) (hp : p < s.size) :
    Calls Tryz.prog 77 #[.pointer (some ⟨b, 0, none⟩)] w fun e w' => e = .returned (.bool false) ∧ Quiet w w' := by
  have := ended_any b p s v w h
  rwa [show decide (s.size ≤ p) = false from by simp; omega] at this

set_option maxHeartbeats 400000 in
theorem peek0_in (b p : Nat) (s : ByteArray) (v : Value) (w : World) (h : Scan b s p v w) (hm : s.size ≤ 16384) (hn : p < s.size) :
    Calls Tryz.prog 108 #[.pointer (some ⟨b, 0, none⟩), .int .i64 0] w fun e w' => e = .returned (.int .u8 (pk (rest s p) 0)) ∧ Quiet w w' := by
  have c0 := h.c0
  have c1 := h.c1
  have hb : ((s[p]'hn).toNat : Int) = pk (rest s p) 0 := pk_rest s p 0 hn
  generalize pk (rest s p) 0 = y at hb ⊢
  have H := hide h
  clear h
  go_enter Tryz.func108, Tryz.ntmps108
  go_wp2_with fail
  go_quiet (fail)
  go_wp2_with fail
  go_quiet (fail)
  go_wp2_with fail
  go_ret
  exact ⟨rfl, by repeat (first | exact Quiet.refl _ | refine Quiet.step ?_ _)⟩
set_option maxHeartbeats 400000 in
theorem peek0_out (b p : Nat) (s : ByteArray) (v : Value) (w : World) (h : Scan b s p v w) (hm : s.size ≤ 16384) (hn : s.size = p) :
    Calls Tryz.prog 108 #[.pointer (some ⟨b, 0, none⟩), .int .i64 0] w fun e w' => e = .returned (.int .u8 0) ∧ Quiet w w' := by
  subst hn
  have c0 := h.c0
  have c1 := h.c1
  have H := hide h
  clear h
  go_enter Tryz.func108, Tryz.ntmps108
  go_wp2_with fail
  go_quiet (fail)
  go_wp2_with fail
  go_ret
  exact ⟨rfl, by repeat (first | exact Quiet.refl _ | refine Quiet.step ?_ _)⟩

set_option maxHeartbeats 400000 in
theorem peek1_in (b p : Nat) (s : ByteArray) (v : Value) (w : World) (h : Scan b s p v w) (hm : s.size ≤ 16384) (hn : p + 1 < s.size) :
    Calls Tryz.prog 108 #[.pointer (some ⟨b, 0, none⟩), .int .i64 1] w fun e w' => e = .returned (.int .u8 (pk (rest s p) 1)) ∧ Quiet w w' := by
  have c0 := h.c0
  have c1 := h.c1
  have hb : ((s[p + 1]'hn).toNat : Int) = pk (rest s p) 1 := pk_rest s p 1 hn
  generalize pk (rest s p) 1 = y at hb ⊢
  have H := hide h
  clear h
  go_enter Tryz.func108, Tryz.ntmps108
  go_wp2_with fail
  go_quiet (fail)
  go_wp2_with fail
  go_quiet (fail)
  go_wp2_with fail
  go_ret
  exact ⟨rfl, by repeat (first | exact Quiet.refl _ | refine Quiet.step ?_ _)⟩

set_option maxHeartbeats 400000 in
theorem peek1_out (b p : Nat) (s : ByteArray) (v : Value) (w : World) (h : Scan b s p v w) (hm : s.size ≤ 16384) (hp : p ≤ s.size) (hn : s.size ≤ p + 1) :
    Calls Tryz.prog 108 #[.pointer (some ⟨b, 0, none⟩), .int .i64 1] w fun e w' => e = .returned (.int .u8 0) ∧ Quiet w w' := by
  have c0 := h.c0
  have c1 := h.c1
  have H := hide h
  have hz : ((s.size : Int) - (p : Int) ≤ 1) := by omega
  clear h
  go_enter Tryz.func108, Tryz.ntmps108
  go_wp2_with fail
  go_quiet (fail)
  go_wp2_with fail
  go_ret
  exact ⟨rfl, by repeat (first | exact Quiet.refl _ | refine Quiet.step ?_ _)⟩

/-- peek, whatever the place. -/
theorem peek0 (b p : Nat) (s : ByteArray) (v : Value) (w : World) (h : Scan b s p v w) (hm : s.size ≤ 16384) (hp : p ≤ s.size) :
    Calls Tryz.prog 108 #[.pointer (some ⟨b, 0, none⟩), .int .i64 0] w fun e w' => e = .returned (.int .u8 (pk (rest s p) 0)) ∧ Quiet w w' := by
  by_cases hn : p < s.size
  · exact peek0_in b p s v w h hm hn
  · rw [pk_out s p 0 (by omega)]; exact peek0_out b p s v w h hm (by omega)
theorem peek1 (b p : Nat) (s : ByteArray) (v : Value) (w : World) (h : Scan b s p v w) (hm : s.size ≤ 16384) (hp : p ≤ s.size) :
    Calls Tryz.prog 108 #[.pointer (some ⟨b, 0, none⟩), .int .i64 1] w fun e w' => e = .returned (.int .u8 (pk (rest s p) 1)) ∧ Quiet w w' := by
  by_cases hn : p + 1 < s.size
  · exact peek1_in b p s v w h hm hn
  · rw [pk_out s p 1 (by omega)]; exact peek1_out b p s v w h hm hp (by omega)

set_option maxHeartbeats 400000 in
theorem blank_any (x : Int) (w : World) : Calls Tryz.prog 109 #[.int .u8 x] w fun e w' => e = .returned (.bool (blankB x)) ∧ w = w' := by
  go_enter Tryz.func109, Tryz.ntmps109
  go_wp2_with fail
  all_goals
    go_ret
    refine ⟨?_, rfl⟩
    simp [blankB, *]
    all_goals try omega

set_option maxHeartbeats 400000 in
theorem digit_any (x : Int) (w : World) : Calls Tryz.prog 116 #[.int .u8 x] w fun e w' => e = .returned (.bool (digitB x)) ∧ w = w' := by
  go_enter Tryz.func116, Tryz.ntmps116
  go_wp2_with fail
  all_goals
    go_ret
    refine ⟨?_, rfl⟩
    simp [digitB, *]
    all_goals try omega

set_option maxHeartbeats 400000 in
theorem small_any (x : Int) (w : World) : Calls Tryz.prog 113 #[.int .u8 x] w fun e w' => e = .returned (.bool (smallB x)) ∧ w = w' := by
  go_enter Tryz.func113, Tryz.ntmps113
  go_wp2_with fail
  all_goals
    go_ret
    refine ⟨?_, rfl⟩
    simp [smallB, *]
    all_goals try omega

set_option maxHeartbeats 400000 in
theorem capital_any (x : Int) (w : World) : Calls Tryz.prog 115 #[.int .u8 x] w fun e w' => e = .returned (.bool (capB x)) ∧ w = w' := by
  go_enter Tryz.func115, Tryz.ntmps115
  go_wp2_with fail
  all_goals
    go_ret
    refine ⟨?_, rfl⟩
    simp [capB, *]
    all_goals try omega

def notNl (x : Int) : Bool := x != 10

set_option maxHeartbeats 400000 in
theorem notNl_any (x : Int) (w : World) : Calls Tryz.prog 111 #[.int .u8 x] w fun e w' => e = .returned (.bool (notNl x)) ∧ w = w' := by
  go_enter Tryz.func111, Tryz.ntmps111
  go_wp2_with fail
  all_goals
    go_ret
    refine ⟨?_, rfl⟩
    simp [notNl, *]
    all_goals try omega
end Go.Proofs.YtgidbplaoijalaaGreatRDoor

/- The walks of package lex, 2: while, letter, Sign, symbols, fault.New, escape. -/
namespace Go.Proofs.YtgidbplaoijalaaGreatRDoor
set_option linter.unusedSimpArgs false
open Go.RowKit Go.Proofs.YtgidbplaoijalaaGreatRDoorW.PrintWords
set_option linter.unusedVariables false

set_option maxHeartbeats 400000 in
theorem letter_any (x : Int) (w : World) : Calls Tryz.prog 114 #[.int .u8 x] w fun e w' => e = .returned (.bool (letterB x)) ∧ w = w' := by
  have q : ∀ a b : Bool, Value.bool (a || b) = Value.bool (a || b) := fun _ _ => rfl
  by_cases h1 : smallB x = true
  · go_enter Tryz.func114, Tryz.ntmps114
    go_wp2_with (first | (go_at_call 113; refine (small_any _ _).mono ?_; rintro e w' ⟨rfl, rfl⟩) | (go_at_call 115; refine (capital_any _ _).mono ?_; rintro e w' ⟨rfl, rfl⟩) | (go_at_call 116; refine (digit_any _ _).mono ?_; rintro e w' ⟨rfl, rfl⟩))
    go_ret
    exact ⟨by simp [letterB, h1], rfl⟩
  · have h1 : smallB x = false := by simpa using h1
    by_cases h2 : capB x = true
    · go_enter Tryz.func114, Tryz.ntmps114
      go_wp2_with (first | (go_at_call 113; refine (small_any _ _).mono ?_; rintro e w' ⟨rfl, rfl⟩) | (go_at_call 115; refine (capital_any _ _).mono ?_; rintro e w' ⟨rfl, rfl⟩) | (go_at_call 116; refine (digit_any _ _).mono ?_; rintro e w' ⟨rfl, rfl⟩))
      go_ret
      exact ⟨by simp [letterB, h1, h2], rfl⟩
    · have h2 : capB x = false := by simpa using h2
      go_enter Tryz.func114, Tryz.ntmps114
      go_wp2_with (first | (go_at_call 113; refine (small_any _ _).mono ?_; rintro e w' ⟨rfl, rfl⟩) | (go_at_call 115; refine (capital_any _ _).mono ?_; rintro e w' ⟨rfl, rfl⟩) | (go_at_call 116; refine (digit_any _ _).mono ?_; rintro e w' ⟨rfl, rfl⟩))
      go_ret
      exact ⟨by simp [letterB, h1, h2], rfl⟩

theorem runS_at (p : Int → Bool) (s : ByteArray) (k : Nat) (h : k < s.size) : runS p (rest s k) = if p (pk (rest s k) 0) then runS p (rest s (k + 1)) + 1 else 0 := by
  have h2 : k < s.data.toList.length := by rw [size_list]; exact h
  unfold rest
  rw [List.drop_eq_getElem_cons h2]
  simp [runS, pk]
theorem runS_end (p : Int → Bool) (s : ByteArray) (k : Nat) (h : s.size ≤ k) : runS p (rest s k) = 0 := by
  have h2 : s.data.toList.length ≤ k := by rw [size_list]; exact h
  unfold rest
  rw [List.drop_eq_nil_of_le h2]; rfl
theorem runS_le (p : Int → Bool) (r : List UInt8) : runS p r ≤ r.length := by
  induction r with
  | nil => simp [runS]
  | cons c r ih => simp only [runS, List.length_cons]; split <;> omega

set_option maxHeartbeats 1000000 in
theorem while_letter (b p : Nat) (s : ByteArray) (v : Value) (w : World) (h : Scan b s p v w) (hm : s.size ≤ 16384) (hp : p ≤ s.size) :
    Calls Tryz.prog 110 #[.pointer (some ⟨b, 0, none⟩), .func (.func 114) #[] #[]] w fun e w' => e = .returned (.tuple #[]) ∧ Scan b s (p + runS letterB (rest s p)) v w' ∧ Stay w w' (fun k => k = b) := by
  have hb := h.lt
  have H := hide h
  have Hn : Hid (p + runS letterB (rest s p) = p + runS letterB (rest s p)) := rfl
  generalize hq : p + runS letterB (rest s p) = q at Hn ⊢
  have Hq := hide hq
  clear h hq Hn
  go_enter Tryz.func110, Tryz.ntmps110
  go_wp2_with fail
  go_loopw [] (fun wr => ∃ k : Nat, Scan b s k v wr ∧ Stay w wr (fun k => k = b) ∧ k + runS letterB (rest s k) = q ∧ k ≤ s.size) (fun wr => match wr.cell? ⟨b, 1, none⟩ with | some (.int _ n) => s.size - n.toNat | _ => 0)
  case atStart => exact ⟨p, H.out, Stay.refl _ _, Hq.out, hp⟩
  case round =>
    obtain ⟨k, hk, hst, he, hks⟩ := hrel
    have c0 := hk.c0
    have c1 := hk.c1
    have f1 := hk.fr 1
    have Hk := hide hk
    have Hst := hide hst
    have He := hide he
    have hbr := hk.lt
    clear hk hst he
    by_cases hlt : k < s.size
    · have hb0 : ((s[k]'hlt).toNat : Int) = pk (rest s k) 0 := pk_rest s k 0 hlt
      have hr := runS_at letterB s k hlt
      generalize pk (rest s k) 0 = x at hb0 hr
      by_cases hx : letterB x = true
      · have hnl : decide (s.size ≤ k) = false := by simp; omega
        rw [if_pos hx] at hr
        have Hr := hide hr
        clear hr
        go_wp2_with fail
        go_quiet (first | (go_at_call 77; exact Calls.quiet_of (ended_any b k s v _ (Hk.out.drewN _))) | (go_at_call 114; exact Calls.quiet_of_same ((letter_any _ _).mono fun _ _ ⟨h1, h2⟩ => ⟨h1, h2.symm⟩)))
        go_wp2_with fail
        go_roundw
        case rel => exact ⟨k + 1, (Hk.out.set (k + 1) _ (by go_num)).drewN _, (Hst.out.setCell _ _ (fun _ => rfl)).drewN _, by have := He.out; have := Hr.out; omega, by omega⟩
        case measure => go_simp; omega
      · have hnl : decide (s.size ≤ k) = false := by simp; omega
        have hx : letterB x = false := by simpa using hx
        rw [hx] at hr
        have Hr := hide hr
        clear hr
        go_wp2_with fail
        go_quiet (first | (go_at_call 77; exact Calls.quiet_of (ended_any b k s v _ (Hk.out.drewN _))) | (go_at_call 114; exact Calls.quiet_of_same ((letter_any _ _).mono fun _ _ ⟨h1, h2⟩ => ⟨h1, h2.symm⟩)))
        go_wp2_with fail
        go_end0
        refine ⟨rfl, ?_, Hst.out.drewN _⟩
        have : k = q := by have := He.out; have := Hr.out; simp at this; omega
        subst this
        exact Hk.out.drewN _
    · have hnl : decide (s.size ≤ k) = true := by simp; omega
      have hr := runS_end letterB s k (by omega)
      have Hr := hide hr
      clear hr
      go_wp2_with fail
      go_quiet (first | (go_at_call 77; exact Calls.quiet_of (ended_any b k s v _ (Hk.out.drewN _))) | (go_at_call 114; exact Calls.quiet_of_same ((letter_any _ _).mono fun _ _ ⟨h1, h2⟩ => ⟨h1, h2.symm⟩)))
      go_wp2_with fail
      go_end0
      refine ⟨rfl, ?_, Hst.out.drewN _⟩
      have : k = q := by have := He.out; have := Hr.out; omega
      subst this
      exact Hk.out.drewN _

set_option maxHeartbeats 1000000 in
theorem while_digit (b p : Nat) (s : ByteArray) (v : Value) (w : World) (h : Scan b s p v w) (hm : s.size ≤ 16384) (hp : p ≤ s.size) :
    Calls Tryz.prog 110 #[.pointer (some ⟨b, 0, none⟩), .func (.func 116) #[] #[]] w fun e w' => e = .returned (.tuple #[]) ∧ Scan b s (p + runS digitB (rest s p)) v w' ∧ Stay w w' (fun k => k = b) := by
  have hb := h.lt
  have H := hide h
  have Hn : Hid (p + runS digitB (rest s p) = p + runS digitB (rest s p)) := rfl
  generalize hq : p + runS digitB (rest s p) = q at Hn ⊢
  have Hq := hide hq
  clear h hq Hn
  go_enter Tryz.func110, Tryz.ntmps110
  go_wp2_with fail
  go_loopw [] (fun wr => ∃ k : Nat, Scan b s k v wr ∧ Stay w wr (fun k => k = b) ∧ k + runS digitB (rest s k) = q ∧ k ≤ s.size) (fun wr => match wr.cell? ⟨b, 1, none⟩ with | some (.int _ n) => s.size - n.toNat | _ => 0)
  case atStart => exact ⟨p, H.out, Stay.refl _ _, Hq.out, hp⟩
  case round =>
    obtain ⟨k, hk, hst, he, hks⟩ := hrel
    have c0 := hk.c0
    have c1 := hk.c1
    have f1 := hk.fr 1
    have Hk := hide hk
    have Hst := hide hst
    have He := hide he
    have hbr := hk.lt
    clear hk hst he
    by_cases hlt : k < s.size
    · have hb0 : ((s[k]'hlt).toNat : Int) = pk (rest s k) 0 := pk_rest s k 0 hlt
      have hr := runS_at digitB s k hlt
      generalize pk (rest s k) 0 = x at hb0 hr
      by_cases hx : digitB x = true
      · have hnl : decide (s.size ≤ k) = false := by simp; omega
        rw [if_pos hx] at hr
        have Hr := hide hr
        clear hr
        go_wp2_with fail
        go_quiet (first | (go_at_call 77; exact Calls.quiet_of (ended_any b k s v _ (Hk.out.drewN _))) | (go_at_call 116; exact Calls.quiet_of_same ((digit_any _ _).mono fun _ _ ⟨h1, h2⟩ => ⟨h1, h2.symm⟩)))
        go_wp2_with fail
        go_roundw
        case rel => exact ⟨k + 1, (Hk.out.set (k + 1) _ (by go_num)).drewN _, (Hst.out.setCell _ _ (fun _ => rfl)).drewN _, by have := He.out; have := Hr.out; omega, by omega⟩
        case measure => go_simp; omega
      · have hnl : decide (s.size ≤ k) = false := by simp; omega
        have hx : digitB x = false := by simpa using hx
        rw [hx] at hr
        have Hr := hide hr
        clear hr
        go_wp2_with fail
        go_quiet (first | (go_at_call 77; exact Calls.quiet_of (ended_any b k s v _ (Hk.out.drewN _))) | (go_at_call 116; exact Calls.quiet_of_same ((digit_any _ _).mono fun _ _ ⟨h1, h2⟩ => ⟨h1, h2.symm⟩)))
        go_wp2_with fail
        go_end0
        refine ⟨rfl, ?_, Hst.out.drewN _⟩
        have : k = q := by have := He.out; have := Hr.out; simp at this; omega
        subst this
        exact Hk.out.drewN _
    · have hnl : decide (s.size ≤ k) = true := by simp; omega
      have hr := runS_end digitB s k (by omega)
      have Hr := hide hr
      clear hr
      go_wp2_with fail
      go_quiet (first | (go_at_call 77; exact Calls.quiet_of (ended_any b k s v _ (Hk.out.drewN _))) | (go_at_call 116; exact Calls.quiet_of_same ((digit_any _ _).mono fun _ _ ⟨h1, h2⟩ => ⟨h1, h2.symm⟩)))
      go_wp2_with fail
      go_end0
      refine ⟨rfl, ?_, Hst.out.drewN _⟩
      have : k = q := by have := He.out; have := Hr.out; omega
      subst this
      exact Hk.out.drewN _

set_option maxHeartbeats 1000000 in
theorem while_notNl (b p : Nat) (s : ByteArray) (v : Value) (w : World) (h : Scan b s p v w) (hm : s.size ≤ 16384) (hp : p ≤ s.size) :
    Calls Tryz.prog 110 #[.pointer (some ⟨b, 0, none⟩), .func (.func 111) #[] #[]] w fun e w' => e = .returned (.tuple #[]) ∧ Scan b s (p + runS notNl (rest s p)) v w' ∧ Stay w w' (fun k => k = b) := by
  have hb := h.lt
  have H := hide h
  have Hn : Hid (p + runS notNl (rest s p) = p + runS notNl (rest s p)) := rfl
  generalize hq : p + runS notNl (rest s p) = q at Hn ⊢
  have Hq := hide hq
  clear h hq Hn
  go_enter Tryz.func110, Tryz.ntmps110
  go_wp2_with fail
  go_loopw [] (fun wr => ∃ k : Nat, Scan b s k v wr ∧ Stay w wr (fun k => k = b) ∧ k + runS notNl (rest s k) = q ∧ k ≤ s.size) (fun wr => match wr.cell? ⟨b, 1, none⟩ with | some (.int _ n) => s.size - n.toNat | _ => 0)
  case atStart => exact ⟨p, H.out, Stay.refl _ _, Hq.out, hp⟩
  case round =>
    obtain ⟨k, hk, hst, he, hks⟩ := hrel
    have c0 := hk.c0
    have c1 := hk.c1
    have f1 := hk.fr 1
    have Hk := hide hk
    have Hst := hide hst
    have He := hide he
    have hbr := hk.lt
    clear hk hst he
    by_cases hlt : k < s.size
    · have hb0 : ((s[k]'hlt).toNat : Int) = pk (rest s k) 0 := pk_rest s k 0 hlt
      have hr := runS_at notNl s k hlt
      generalize pk (rest s k) 0 = x at hb0 hr
      by_cases hx : notNl x = true
      · have hnl : decide (s.size ≤ k) = false := by simp; omega
        rw [if_pos hx] at hr
        have Hr := hide hr
        clear hr
        go_wp2_with fail
        go_quiet (first | (go_at_call 77; exact Calls.quiet_of (ended_any b k s v _ (Hk.out.drewN _))) | (go_at_call 111; exact Calls.quiet_of_same ((notNl_any _ _).mono fun _ _ ⟨h1, h2⟩ => ⟨h1, h2.symm⟩)))
        go_wp2_with fail
        go_roundw
        case rel => exact ⟨k + 1, (Hk.out.set (k + 1) _ (by go_num)).drewN _, (Hst.out.setCell _ _ (fun _ => rfl)).drewN _, by have := He.out; have := Hr.out; omega, by omega⟩
        case measure => go_simp; omega
      · have hnl : decide (s.size ≤ k) = false := by simp; omega
        have hx : notNl x = false := by simpa using hx
        rw [hx] at hr
        have Hr := hide hr
        clear hr
        go_wp2_with fail
        go_quiet (first | (go_at_call 77; exact Calls.quiet_of (ended_any b k s v _ (Hk.out.drewN _))) | (go_at_call 111; exact Calls.quiet_of_same ((notNl_any _ _).mono fun _ _ ⟨h1, h2⟩ => ⟨h1, h2.symm⟩)))
        go_wp2_with fail
        go_end0
        refine ⟨rfl, ?_, Hst.out.drewN _⟩
        have : k = q := by have := He.out; have := Hr.out; simp at this; omega
        subst this
        exact Hk.out.drewN _
    · have hnl : decide (s.size ≤ k) = true := by simp; omega
      have hr := runS_end notNl s k (by omega)
      have Hr := hide hr
      clear hr
      go_wp2_with fail
      go_quiet (first | (go_at_call 77; exact Calls.quiet_of (ended_any b k s v _ (Hk.out.drewN _))) | (go_at_call 111; exact Calls.quiet_of_same ((notNl_any _ _).mono fun _ _ ⟨h1, h2⟩ => ⟨h1, h2.symm⟩)))
      go_wp2_with fail
      go_end0
      refine ⟨rfl, ?_, Hst.out.drewN _⟩
      have : k = q := by have := He.out; have := Hr.out; omega
      subst this
      exact Hk.out.drewN _

end Go.Proofs.YtgidbplaoijalaaGreatRDoor

/- The walks of package lex, 3: Sign, symbols, fault.New, escape. -/
namespace Go.Proofs.YtgidbplaoijalaaGreatRDoor
set_option linter.unusedSimpArgs false
open Go.RowKit Go.Proofs.YtgidbplaoijalaaGreatRDoorW.PrintWords
set_option linter.unusedVariables false

theorem indexByte_contains (l : List UInt8) (c : UInt8) : decide (0 ≤ Lib.indexByte l c) = l.contains c := by
  induction l with
  | nil => simp [Lib.indexByte]
  | cons b l ih =>
    have hg := Lib.indexByte_ge l c
    simp only [Lib.indexByte, List.contains_cons]
    by_cases h : b = c
    · simp [h]
    · have h1 : (b == c) = false := by simpa using h
      have h2 : (c == b) = false := by simpa using fun e => h e.symm
      rw [← ih, h2]
      simp only [h1, Bool.false_eq_true, if_false, Bool.false_or]
      by_cases hz : Lib.indexByte l c = -1
      · simp [hz]
      · have hz' : (Lib.indexByte l c == -1) = false := by simpa using hz
        rw [hz']
        simp only [Bool.false_eq_true, if_false]
        rw [decide_eq_decide]
        omega
theorem toUInt8_n8 (c : UInt8) : (n8 c).toNat.toUInt8 = c := by simp [n8]

set_option maxHeartbeats 400000 in
theorem sign_any (c : UInt8) (x : Int) (hx : x = n8 c) (w : World) : Calls Tryz.prog 120 #[.int .u8 x] w fun e w' => e = .returned (.bool (signB c)) ∧ w = w' := by
  have hq : decide (0 ≤ Lib.indexByte signsL c) = signB c := indexByte_contains _ _
  generalize hz : Lib.indexByte signsL c = z at hq
  have Hz := hide hz
  have Hq := hide hq
  have Hx := hide hx
  clear hz hq hx
  go_enter Tryz.func120, Tryz.ntmps120
  go_wp2_with fail
  refine (Tryz.strings_IndexByte _ _ _).mono ?_
  rintro e w' ⟨rfl, rfl⟩
  rw [Hx.out, toUInt8_n8]
  rw [show Lib.indexByte (ByteArray.mk #[43, 45, 42, 47, 92, 94, 60, 62, 61, 126, 58, 46, 63, 64, 35, 38, 36]).data.toList c = z from Hz.out]
  go_wp2_with fail
  go_ret
  exact ⟨by rw [← Hq.out]; rfl, rfl⟩

/-- An error of package fault: its number and its place; it lies from block N on. -/
def Fault (N : Nat) (e : Value) (code at_ : Int) (w : World) : Prop := ∃ b, N ≤ b ∧ e = .iface 108 (.pointer (some ⟨b, 0, none⟩)) ∧ w.heap[b]? = some (.cells [.int .i64 code, .int .i64 at_].toArray 112 (0, 0))
theorem Fault.stay {N : Nat} {e : Value} {c a : Int} {w w1 : World} {S : Nat → Prop} (h : Fault N e c a w) (hs : Stay w w1 S) (hn : ∀ k, S k → k < N) : Fault N e c a w1 := by
  obtain ⟨b, hN, he, hb⟩ := h
  exact ⟨b, hN, he, (hs.block b (lt_of hb) (fun h => by have := hn b h; omega)).trans hb⟩
theorem Fault.mono {N M : Nat} {e : Value} {c a : Int} {w : World} (h : Fault N e c a w) (hm : M ≤ N) : Fault M e c a w := by
  obtain ⟨b, hN, he, hb⟩ := h
  exact ⟨b, by omega, he, hb⟩

set_option maxHeartbeats 400000 in
theorem new_any (code at_ : Int) (hc : (code == 0) = false) (w : World) : Calls Tryz.prog 52 #[.int .i64 code, .int .i64 at_] w fun e w' => ∃ b, e = .returned (.iface 108 (.pointer (some ⟨b, 0, none⟩))) ∧ b = w.heap.size ∧ w' = w.alloc (.cells [.int .i64 code, .int .i64 at_].toArray 112) := by
  go_enter Tryz.func52, Tryz.ntmps52
  go_wp2_with fail
  go_ret
  exact ⟨_, rfl, rfl, rfl⟩

theorem symS_at (s : ByteArray) (k : Nat) (h : k < s.size) : symS (rest s k) = if signB ((rest s k).getD 0 0) && !(pk (rest s k) 0 == 47 && pk (rest s k) 1 == 42) then symS (rest s (k + 1)) + 1 else 0 := by
  have h2 : k < s.data.toList.length := by rw [size_list]; exact h
  unfold rest
  rw [List.drop_eq_getElem_cons h2]
  simp [symS, pk]

set_option maxHeartbeats 1000000 in
theorem symbols_any (b p : Nat) (s : ByteArray) (v : Value) (w : World) (h : Scan b s p v w) (hm : s.size ≤ 16384) (hp : p ≤ s.size) :
    Calls Tryz.prog 121 #[.pointer (some ⟨b, 0, none⟩)] w fun e w' => e = .returned (.tuple #[]) ∧ Scan b s (p + symS (rest s p)) v w' ∧ Stay w w' (fun k => k = b) := by
  have hb := h.lt
  have H := hide h
  generalize hq : p + symS (rest s p) = q
  have Hq := hide hq
  clear h hq
  go_enter Tryz.func121, Tryz.ntmps121
  go_wp2_with fail
  go_loopw [] (fun wr => ∃ k : Nat, Scan b s k v wr ∧ Stay w wr (fun k => k = b) ∧ k + symS (rest s k) = q ∧ k ≤ s.size) (fun wr => match wr.cell? ⟨b, 1, none⟩ with | some (.int _ n) => s.size - n.toNat | _ => 0)
  case atStart => exact ⟨p, H.out, Stay.refl _ _, Hq.out, hp⟩
  case round =>
    obtain ⟨k, hk, hst, he, hks⟩ := hrel
    have Hk := hide hk
    have Hst := hide hst
    have He := hide he
    clear hst he
    by_cases hlt : k < s.size
    · have hr := symS_at s k hlt
      have hnl : decide (s.size ≤ k) = false := by simp; omega
      go_wp2_with fail
      refine (ended_any b k s v _ hk).mono ?_
      rintro e w1 ⟨rfl, hq1⟩
      have hk1 := hk.stay (hq1.stay (fun _ => False)) (fun e => e)
      have Hq1 := hide (hq1.stay (fun k => k = b))
      clear hq1 hk
      rw [hnl]
      go_wp2_with fail
      refine (peek0 b k s v _ hk1 hm hks).mono ?_
      rintro e w2 ⟨rfl, hq2⟩
      have hk2 := hk1.stay (hq2.stay (fun _ => False)) (fun e => e)
      have Hq2 := hide (hq2.stay (fun k => k = b))
      clear hq2 hk1
      go_wp2_with fail
      refine (sign_any ((rest s k).getD 0 0) _ rfl _).mono ?_
      rintro e w3 ⟨rfl, rfl⟩
      have hst2 : Hid (Stay w w2 fun k => k = b) := hide ((Hst.out.trans Hq1.out (fun _ _ h => h)).trans Hq2.out (fun _ _ h => h))
      by_cases hsg : signB ((rest s k).getD 0 0) = true
      · rw [hsg]
        rw [hsg, Bool.true_and] at hr
        by_cases h47 : (pk (rest s k) 0 == 47) = true
        · go_wp2_with fail
          refine (peek0 b k s v _ hk2 hm hks).mono ?_
          rintro e w4 ⟨rfl, hq4⟩
          have hk4 := hk2.stay (hq4.stay (fun _ => False)) (fun e => e)
          have Hq4 := hide (hq4.stay (fun k => k = b))
          clear hq4 hk2
          go_wp2_with fail
          refine (peek1 b k s v _ hk4 hm hks).mono ?_
          rintro e w5 ⟨rfl, hq5⟩
          have hk5 := hk4.stay (hq5.stay (fun _ => False)) (fun e => e)
          have Hq5 := hide (hq5.stay (fun k => k = b))
          have hst5 : Hid (Stay w w5 fun k => k = b) := hide ((hst2.out.trans Hq4.out (fun _ _ h => h)).trans Hq5.out (fun _ _ h => h))
          clear hq5 hk4
          rw [h47, Bool.true_and] at hr
          by_cases h42 : (pk (rest s k) 1 == 42) = true
          · rw [h42] at hr
            have Hr := hide hr
            clear hr
            go_wp2_with fail
            go_end0
            refine ⟨rfl, ?_, hst5.out⟩
            have : k = q := by have := He.out; have := Hr.out; simp at this; omega
            subst this
            exact hk5
          · have h42 : (pk (rest s k) 1 == 42) = false := by simpa using h42
            rw [h42] at hr
            have Hr := hide hr
            have c1 := hk5.c1
            have f1 := hk5.fr 1
            have hbr := hk5.lt
            clear hr
            go_wp2_with fail
            go_roundw
            case rel => exact ⟨k + 1, hk5.set (k + 1) _ (by go_num), hst5.out.setCell _ _ (fun _ => rfl), by have := He.out; have := Hr.out; simp at this; omega, by omega⟩
            case measure => have cwr := Hk.out.c1; go_simp; omega
        · have h47 : (pk (rest s k) 0 == 47) = false := by simpa using h47
          rw [h47] at hr
          have Hr := hide hr
          clear hr
          go_wp2_with fail
          refine (peek0 b k s v _ hk2 hm hks).mono ?_
          rintro e w4 ⟨rfl, hq4⟩
          have hk4 := hk2.stay (hq4.stay (fun _ => False)) (fun e => e)
          have Hq4 := hide (hq4.stay (fun k => k = b))
          have hst4 : Hid (Stay w w4 fun k => k = b) := hide (hst2.out.trans Hq4.out (fun _ _ h => h))
          have c1 := hk4.c1
          have f1 := hk4.fr 1
          have hbr := hk4.lt
          clear hq4 hk2
          go_wp2_with fail
          go_roundw
          case rel => exact ⟨k + 1, hk4.set (k + 1) _ (by go_num), hst4.out.setCell _ _ (fun _ => rfl), by have := He.out; have := Hr.out; simp at this; omega, by omega⟩
          case measure => have cwr := Hk.out.c1; go_simp; omega
      · have hsg : signB ((rest s k).getD 0 0) = false := by simpa using hsg
        rw [hsg]
        rw [hsg] at hr
        have Hr := hide hr
        clear hr
        go_wp2_with fail
        go_end0
        refine ⟨rfl, ?_, hst2.out⟩
        have : k = q := by have := He.out; have := Hr.out; simp at this; omega
        subst this
        exact hk2
    · have hnl : decide (s.size ≤ k) = true := by simp; omega
      have hr : symS (rest s k) = 0 := by
        unfold rest
        rw [List.drop_eq_nil_of_le (by rw [size_list]; omega)]; rfl
      have Hr := hide hr
      clear hr
      go_wp2_with fail
      refine (ended_any b k s v _ hk).mono ?_
      rintro e w1 ⟨rfl, hq1⟩
      have hk1 := hk.stay (hq1.stay (fun _ => False)) (fun e => e)
      have Hq1 := hide (hq1.stay (fun k => k = b))
      clear hq1 hk
      rw [hnl]
      go_wp2_with fail
      go_end0
      refine ⟨rfl, ?_, Hst.out.trans Hq1.out (fun _ _ h => h)⟩
      have : k = q := by have := He.out; have := Hr.out; omega
      subst this
      exact hk1

/-- What an escape leaves. -/
def EscPost (b p : Nat) (s : ByteArray) (v : Value) (o : Int) (w : World) (r : Except Bool UInt8) (e : Ending) (w' : World) : Prop :=
  match r with
  | .ok x => e = .returned (.tuple #[.int .u8 (n8 x), .nilIface]) ∧ Scan b s (p + 2) v w' ∧ Stay w w' (fun k => k = b)
  | .error t => ∃ ev, e = .returned (.tuple #[.int .u8 0, ev]) ∧ Fault w.heap.size ev (if t then 81 else 82) (if t then o else p) w' ∧ Below w.heap.size w w'

theorem Quiet.below {w w' : World} (h : Quiet w w') : Below w.heap.size w w' := (h.stay (fun _ => False)).below (fun _ _ e => e)

set_option maxHeartbeats 1000000 in
theorem escape_any (b p : Nat) (s : ByteArray) (v : Value) (o : Int) (w : World) (h : Scan b s p v w) (hm : s.size ≤ 16384) (hp : p < s.size) :
    Calls Tryz.prog 151 #[.pointer (some ⟨b, 0, none⟩), .int .i64 o] w (EscPost b p s v o w (escS (rest s p))) := by
  have hlen := rest_length s p
  have c0 := h.c0
  have c1 := h.c1
  have hb := h.lt
  have hfin : escS (rest s p) = _ := rfl
  conv at hfin => rhs; unfold escS
  generalize escS (rest s p) = r at hfin ⊢
  have Hfin := hide hfin
  clear hfin
  by_cases h1 : s.size ≤ p + 1
  · rw [if_pos (by omega)] at Hfin
    have Hlen := hide hlen
    clear hlen h
    go_enter Tryz.func151, Tryz.ntmps151
    go_wp2_with fail
    go_quiet (fail)
    go_wp2_with fail
    refine (new_any 81 o (by decide) _).mono ?_
    rintro e w1 ⟨q, rfl, rfl, rfl⟩
    go_wp2_with fail
    go_ret2
    rw [Hfin.out]
    exact ⟨_, rfl, ⟨_, by simp, rfl, heap_alloc_new _ _⟩, ((Quiet.refl w).step _).below.alloc (by simp) _⟩
  · rw [if_neg (by omega)] at Hfin
    have Hlen := hide hlen
    clear hlen
    go_enter Tryz.func151, Tryz.ntmps151
    go_wp2_with fail
    go_quiet (fail)
    go_wp2_with fail
    refine (peek1 b p s v _ (h.drewN _) hm (by omega)).mono ?_
    rintro e w1 ⟨rfl, hq1⟩
    have hk1 := (h.drewN nq).stay (hq1.stay (fun _ => False)) (fun e => e)
    have hb1 : Below w.heap.size w w1 := ((Quiet.refl w).step nq).below.trans hq1.below
    have hst1 : Stay w w1 (fun k => k = b) := Stay.of_below hb1 _
    have Hb1 := hide hb1
    have Hst1 := hide hst1
    have c1 := hk1.c1
    have f1 := hk1.fr 1
    have hbr := hk1.lt
    have hx1 : n8 ((rest s p).getD 1 0) = pk (rest s p) 1 := rfl
    generalize (rest s p).getD 1 0 = x1 at hx1 Hfin
    generalize pk (rest s p) 1 = y at hx1 Hfin ⊢
    have Hx1 := hide hx1
    clear hx1 hq1 hb1 hst1 c0 h
    by_cases e1 : y = 110
    · subst e1
      rw [if_pos rfl] at Hfin
      go_wp2_with fail
      go_ret2
      rw [Hfin.out]
      exact ⟨rfl, hk1.set (p + 2) _ (by go_num), Hst1.out.setCell _ _ (fun _ => rfl)⟩
    rw [if_neg e1] at Hfin
    by_cases e2 : y = 116
    · subst e2
      rw [if_pos rfl] at Hfin
      go_wp2_with fail
      go_ret2
      rw [Hfin.out]
      exact ⟨rfl, hk1.set (p + 2) _ (by go_num), Hst1.out.setCell _ _ (fun _ => rfl)⟩
    rw [if_neg e2] at Hfin
    by_cases e3 : y = 92
    · subst e3
      rw [if_pos (.inl rfl)] at Hfin
      go_wp2_with fail
      go_ret2
      rw [Hfin.out]
      exact ⟨by rw [Hx1.out]; rfl, hk1.set (p + 2) _ (by go_num), Hst1.out.setCell _ _ (fun _ => rfl)⟩
    by_cases e4 : y = 39
    · subst e4
      rw [if_pos (.inr (.inl rfl))] at Hfin
      go_wp2_with fail
      go_ret2
      rw [Hfin.out]
      exact ⟨by rw [Hx1.out]; rfl, hk1.set (p + 2) _ (by go_num), Hst1.out.setCell _ _ (fun _ => rfl)⟩
    by_cases e5 : y = 34
    · subst e5
      rw [if_pos (.inr (.inr rfl))] at Hfin
      go_wp2_with fail
      go_ret2
      rw [Hfin.out]
      exact ⟨by rw [Hx1.out]; rfl, hk1.set (p + 2) _ (by go_num), Hst1.out.setCell _ _ (fun _ => rfl)⟩
    rw [if_neg (by omega)] at Hfin
    go_wp2_with fail
    refine (new_any 82 _ (by decide) _).mono ?_
    rintro e w2 ⟨q, rfl, rfl, rfl⟩
    go_wp2_with fail
    go_ret2
    rw [Hfin.out]
    exact ⟨_, rfl, ⟨_, Hb1.out.size, rfl, heap_alloc_new _ _⟩, Hb1.out.alloc Hb1.out.size _⟩
end Go.Proofs.YtgidbplaoijalaaGreatRDoor

/- The walks of package lex, 4: quoted, code. -/
namespace Go.Proofs.YtgidbplaoijalaaGreatRDoor
set_option linter.unusedSimpArgs false
open Go.RowKit Go.Proofs.YtgidbplaoijalaaGreatRDoorW.PrintWords
set_option linter.unusedVariables false

/-- What reading a quoted name leaves (p: the quote's place). -/
def QuotPost (b p : Nat) (s : ByteArray) (v : Value) (w : World) (r : Except (Int × Int) (List UInt8 × Nat)) (e : Ending) (w' : World) : Prop :=
  match r with
  | .ok (q, n) => e = .returned (.tuple #[.string (bs q), .nilIface]) ∧ Scan b s (p + 1 + n) v w' ∧ Stay w w' (fun k => k = b)
  | .error (c, a) => ∃ ev, e = .returned (.tuple #[.string (bs []), ev]) ∧ Fault w.heap.size ev c a w' ∧ Stay w w' (fun k => k = b)

theorem rest_cons (s : ByteArray) (k : Nat) (h : k < s.size) : rest s k = (rest s k).getD 0 0 :: rest s (k + 1) := by
  have h2 : k < s.data.toList.length := by rw [size_list]; exact h
  unfold rest
  rw [List.drop_eq_getElem_cons h2]; simp
theorem rest_nil (s : ByteArray) (k : Nat) (h : s.size ≤ k) : rest s k = [] := by
  unfold rest
  rw [List.drop_eq_nil_of_le (by rw [size_list]; exact h)]
theorem rest_drop (s : ByteArray) (k n : Nat) : (rest s k).drop n = rest s (k + n) := by unfold rest; rw [List.drop_drop]

theorem quotS_at (f : Nat) (s : ByteArray) (k : Nat) (o : Int) (h : k < s.size) : quotS (f + 1) (rest s k) o (k : Int) =
    if pk (rest s k) 0 = 39 ∧ ¬ pk (rest s k) 1 = 39 then .ok ([], 1)
    else if pk (rest s k) 0 = 39 then (quotS f (rest s (k + 2)) o ((k + 2 : Nat) : Int)).map fun q => ((rest s k).getD 0 0 :: q.1, q.2 + 2)
    else if 32 ≤ pk (rest s k) 0 ∧ pk (rest s k) 0 ≤ 126 ∧ ¬ pk (rest s k) 0 = 92 then (quotS f (rest s (k + 1)) o ((k + 1 : Nat) : Int)).map fun q => ((rest s k).getD 0 0 :: q.1, q.2 + 1)
    else if pk (rest s k) 0 = 92 then
      match escS (rest s k) with
      | .error true => .error (81, o)
      | .error false => .error (82, (k : Int))
      | .ok x => (quotS f (rest s (k + 2)) o ((k + 2 : Nat) : Int)).map fun q => (x :: q.1, q.2 + 2)
    else .error (80, (k : Int)) := by
  have hc := rest_cons s k h
  have hd : (rest s (k + 1)).drop 1 = rest s (k + 2) := rest_drop s (k + 1) 1
  have e1 : ((k + 1 : Nat) : Int) = (k : Int) + 1 := by omega
  have e2 : ((k + 2 : Nat) : Int) = (k : Int) + 2 := by omega
  have hq : ∀ c r, quotS (f + 1) (c :: r) o (k : Int) = if n8 c = 39 ∧ ¬ pk (c :: r) 1 = 39 then .ok ([], 1)
    else if n8 c = 39 then (quotS f (r.drop 1) o ((k : Int) + 2)).map fun q => (c :: q.1, q.2 + 2)
    else if 32 ≤ n8 c ∧ n8 c ≤ 126 ∧ ¬ n8 c = 92 then (quotS f r o ((k : Int) + 1)).map fun q => (c :: q.1, q.2 + 1)
    else if n8 c = 92 then
      match escS (c :: r) with
      | .error true => .error (81, o)
      | .error false => .error (82, (k : Int))
      | .ok x => (quotS f (r.drop 1) o ((k : Int) + 2)).map fun q => (x :: q.1, q.2 + 2)
    else .error (80, (k : Int)) := fun c r => rfl
  have h0 := hq ((rest s k).getD 0 0) (rest s (k + 1))
  rw [← hc, hd] at h0
  rw [h0, e1, e2]
  rfl
theorem map_step {ε : Type} (x : Except ε (List UInt8 × Nat)) (l : List UInt8) (c : UInt8) (m k q : Nat) (h : q ≤ k) :
    (x.map fun r => (c :: r.1, r.2 + m)).map (fun r => (l ++ r.1, r.2 + (k - q))) = x.map (fun r => ((l ++ [c]) ++ r.1, r.2 + (k + m - q))) := by
  cases x with
  | error e => rfl
  | ok r => simp [Except.map]; omega

theorem escS_len (r : List UInt8) (x : UInt8) (h : escS r = .ok x) : 2 ≤ r.length := by
  unfold escS at h
  split at h
  · cases h
  · omega
theorem len_snoc (l : List UInt8) (x : UInt8) : (l ++ [x]).length = l.length + 1 := by simp
/-- A byte has been written into the call's own builder. -/
theorem wrote {b j : Nat} {s : ByteArray} {v : Value} {w W W1 : World} {g g' : Option Nat} {l : List UInt8} (hk : Scan b s j v W) (hb : b < w.heap.size) (hst : Stay w W (fun k => k = b)) (hg : ∀ q, g = some q → w.heap.size < q)
    (hbl : Bld 73 [] w.heap.size g l W) (hs : Stay W W1 (fun k => k = w.heap.size ∨ some k = g)) (hg' : g' = g ∨ ∃ k, g' = some k ∧ W.heap.size ≤ k) :
    Scan b s j v W1 ∧ Stay w W1 (fun k => k = b) ∧ ∀ q, g' = some q → w.heap.size < q := by
  refine ⟨hk.stay hs (fun e => ?_), hst.trans hs (fun q hq e => ?_), fun q hq => ?_⟩
  · rcases e with e | e
    · omega
    · have := hg b e.symm; omega
  · rcases e with e | e
    · omega
    · have := hg q e.symm; omega
  · rcases hg' with e | ⟨q', e, hq'⟩
    · exact hg q (by rw [← e, hq])
    · rw [e] at hq
      injection hq with hq
      have := hbl.lt
      omega

/-- quoted's loop, at place k, l read so far: what is still to come. -/
structure QLoop (b p : Nat) (s : ByteArray) (v : Value) (R : Except (Int × Int) (List UInt8 × Nat)) (w wr : World) : Prop where
  ex : ∃ (k f : Nat) (l : List UInt8) (g : Option Nat), Scan b s k v wr ∧ Bld 73 [] w.heap.size g l wr ∧ (∀ q, g = some q → w.heap.size < q) ∧ p + 1 ≤ k ∧ k ≤ s.size ∧ s.size - k < f ∧ l.length ≤ k ∧
    R = (quotS f (rest s k) p k).map (fun q => (l ++ q.1, q.2 + (k - (p + 1))))
  st : Stay w wr (fun k => k = b)

set_option maxHeartbeats 2000000 in
set_option maxRecDepth 100000 in
theorem quoted_any (b p : Nat) (s : ByteArray) (v : Value) (w : World) (h : Scan b s p v w) (hm : s.size ≤ 16384) (hp : p < s.size) (F : Nat) (hF : s.size - (p + 1) < F) :
    Calls Tryz.prog 119 #[.pointer (some ⟨b, 0, none⟩)] w (QuotPost b p s v w (quotS F (rest s (p + 1)) p (p + 1))) := by
  have c0 := h.c0
  have c1 := h.c1
  have f1 := h.fr 1
  have hb := h.lt
  have hR : quotS F (rest s (p + 1)) p (p + 1) = (quotS F (rest s (p + 1)) p ((p + 1 : Nat) : Int)).map (fun q => ([] ++ q.1, q.2 + (p + 1 - (p + 1)))) := by
    rw [show ((p + 1 : Nat) : Int) = (p : Int) + 1 from by omega]
    cases quotS F (rest s (p + 1)) p (p + 1) <;> simp [Except.map]
  generalize quotS F (rest s (p + 1)) p (p + 1) = R at hR ⊢
  have HR := hide hR
  have H := hide h
  clear hR h
  go_enter Tryz.func119, Tryz.ntmps119
  go_wp2_with fail
  go_loopw [] (fun wr => QLoop b p s v R w wr) (fun wr => match wr.cell? ⟨b, 1, none⟩ with | some (.int _ n) => s.size - n.toNat | _ => 0)
  case atStart =>
    have hbl := Bld.fresh 73 [] (w.setCell ⟨b, 1, none⟩ (.int .i64 (↑p + 1)))
    rw [show (w.setCell ⟨b, 1, none⟩ (.int .i64 (↑p + 1))).heap.size = w.heap.size from by simp [World.setCell]] at hbl
    exact ⟨⟨p + 1, F, [], none, (H.out.set (p + 1) _ (by go_num)).stay ((Stay.refl _ (fun _ => False)).alloc _) (fun e => e), hbl, by simp, Nat.le_refl _, hp, hF, by simp, HR.out⟩, (Stay.set1 _ _ _ _).alloc _⟩
  case round =>
    obtain ⟨⟨k, f, l, g, hk, hbl, hg, hpk, hks, hf, hll, hRk⟩, hst⟩ := hrel
    have HRk := hide hRk
    have Hst := hide hst
    have Hg := hide hg
    have Hk := hide hk
    have hblt := hbl.lt
    clear hRk hst HR c0 c1 f1 hg
    obtain ⟨f, rfl⟩ : ∃ m, f = m + 1 := ⟨f - 1, by omega⟩
    by_cases hlt : k < s.size
    · have hnl : decide (s.size ≤ k) = false := by simp; omega
      rw [quotS_at f s k p hlt] at HRk
      have hx0 : pk (rest s k) 0 = n8 ((rest s k).getD 0 0) := rfl
      go_wp2_with fail
      refine (ended_any b k s v _ hk).mono ?_
      rintro e w1 ⟨rfl, hq1⟩
      have hk1 := hk.stay (hq1.stay (fun _ => False)) (fun e => e)
      have hbl1 := hbl.stay (hq1.stay (fun _ => False)) (fun e => e) (fun _ _ e => e)
      have Hq1 := hide (hq1.stay (fun k => k = b))
      clear hq1 hk hbl
      rw [hnl]
      go_wp2_with fail
      refine (peek0 b k s v _ hk1 hm hks).mono ?_
      rintro e w2 ⟨rfl, hq2⟩
      have hk2 := hk1.stay (hq2.stay (fun _ => False)) (fun e => e)
      have hbl2 := hbl1.stay (hq2.stay (fun _ => False)) (fun e => e) (fun _ _ e => e)
      have Hq2 := hide (hq2.stay (fun k => k = b))
      have Hst2 : Hid (Stay w w2 (fun k => k = b)) := hide ((Hst.out.trans Hq1.out (fun _ _ h => h)).trans Hq2.out (fun _ _ h => h))
      clear hq2 hk1 hbl1
      generalize (rest s k).getD 0 0 = ch at hx0 HRk
      generalize pk (rest s k) 0 = x0 at hx0 HRk ⊢
      have Hx0 := hide hx0
      clear hx0
      by_cases e39 : x0 = 39
      · by_cases e39' : pk (rest s k) 1 = 39
        · rw [if_neg (by omega), if_pos e39] at HRk
          subst e39
          go_wp2_with fail
          refine (peek1 b k s v _ hk2 hm hks).mono ?_
          rintro e w3 ⟨rfl, hq3⟩
          have hk3 := hk2.stay (hq3.stay (fun _ => False)) (fun e => e)
          have hbl3 := hbl2.stay (hq3.stay (fun _ => False)) (fun e => e) (fun _ _ e => e)
          have Hst3 : Hid (Stay w w3 (fun k => k = b)) := hide (Hst2.out.trans (hq3.stay (fun k => k = b)) (fun _ _ h => h))
          clear hq3 hk2 hbl2
          rw [e39']
          have c1 := hk3.c1
          have f1 := hk3.fr 1
          have hbr := hk3.lt
          have hlt2 : k + 1 < s.size := by
            by_cases h : k + 1 < s.size
            · exact h
            · rw [pk_out s k 1 (by omega)] at e39'; omega
          clear e39'
          go_wp2_with fail
          have hk4 := hk3.set (k + 1) (↑k + 1) (by go_num)
          have hst4 : Stay w (w3.setCell ⟨b, 1, none⟩ (.int .i64 (↑k + 1))) (fun k => k = b) := Hst3.out.setCell _ _ (fun _ => rfl)
          have hbl4 := hbl3.stay (Stay.set1 w3 b 1 (.int .i64 (↑k + 1))) (by omega) (fun q hq e => by have := Hg.out q hq; omega)
          refine (writeByte_any bldT_own [] rfl w.heap.size g l ch 39 Hx0.out _ hbl4 (by omega)).mono ?_
          rintro e w5 ⟨rfl, g5, hbl5, hs5, hg5⟩
          obtain ⟨hk5, hst5, hgt5⟩ := wrote hk4 hb hst4 Hg.out hbl4 hs5 hg5
          have Hst5 := hide hst5
          have Hgt5 := hide hgt5
          have c5 := hk5.c1
          have f5 := hk5.fr 1
          have hbr5 := hk5.lt
          have hll2 : (l ++ [ch]).length ≤ k + 2 := by rw [len_snoc]; omega
          clear hst4 hbl4 hs5 hg5 hst5 hgt5 hk4 c1 f1 hk3 hbl3
          go_wp2_with fail
          go_roundw
          case rel => exact ⟨⟨k + 2, f, l ++ [ch], g5, hk5.set (k + 2) _ (by go_num), hbl5.stay (Stay.set1 _ _ _ _) (by omega) (fun q hq e => by have := Hgt5.out q hq; omega), Hgt5.out, by omega, by omega, by omega, hll2, by rw [HRk.out, map_step _ _ _ _ _ _ hpk]⟩, Hst5.out.setCell _ _ (fun _ => rfl)⟩
          case measure => have cwr := Hk.out.c1; go_simp; omega
        · rw [if_pos ⟨e39, e39'⟩] at HRk
          subst e39
          go_wp2_with fail
          refine (peek1 b k s v _ hk2 hm hks).mono ?_
          rintro e w3 ⟨rfl, hq3⟩
          have hk3 := hk2.stay (hq3.stay (fun _ => False)) (fun e => e)
          have hbl3 := hbl2.stay (hq3.stay (fun _ => False)) (fun e => e) (fun _ _ e => e)
          have Hst3 : Hid (Stay w w3 (fun k => k = b)) := hide (Hst2.out.trans (hq3.stay (fun k => k = b)) (fun _ _ h => h))
          clear hq3 hk2 hbl2
          generalize pk (rest s k) 1 = x1 at e39' ⊢
          have c1 := hk3.c1
          have f1 := hk3.fr 1
          have hbr := hk3.lt
          go_wp2_with fail
          have hk4 := hk3.set (k + 1) (↑k + 1) (by go_num)
          have hst4 : Stay w (w3.setCell ⟨b, 1, none⟩ (.int .i64 (↑k + 1))) (fun k => k = b) := Hst3.out.setCell _ _ (fun _ => rfl)
          have hbl4 := hbl3.stay (Stay.set1 w3 b 1 (.int .i64 (↑k + 1))) (by omega) (fun q hq e => by have := Hg.out q hq; omega)
          by_cases hl : l = []
          · subst hl
            refine (string_nil bldT_own [] rfl w.heap.size g _ hbl4).mono ?_
            rintro e w5 ⟨rfl, hs5⟩
            go_wp2_with fail
            go_ret2
            rw [HRk.out]
            exact ⟨rfl, by rw [show p + 1 + (0 + 1 + (k - (p + 1))) = k + 1 from by omega]; exact hk4.stay hs5 (fun e => e), hst4.trans hs5 (fun _ _ e => e.elim)⟩
          · refine (string_any bldT_own [] rfl w.heap.size g l _ hbl4 hl).mono ?_
            rintro e w5 ⟨rfl, hs5⟩
            go_wp2_with fail
            go_ret2
            rw [HRk.out]
            refine ⟨by simp [bs], ?_, hst4.trans hs5 (fun q hq e => by have := Hg.out q e.symm; omega)⟩
            rw [show p + 1 + (1 + (k - (p + 1))) = k + 1 from by omega]
            exact hk4.stay hs5 (fun e => by have := Hg.out b e.symm; omega)
      rw [if_neg (by omega), if_neg e39] at HRk
      by_cases epl : 32 ≤ x0 ∧ x0 ≤ 126 ∧ ¬ x0 = 92
      · rw [if_pos epl] at HRk
        obtain ⟨ep1, ep2, ep3⟩ := epl
        go_wp2_with fail
        refine (writeByte_any bldT_own [] rfl w.heap.size g l ch x0 Hx0.out _ hbl2 (by omega)).mono ?_
        rintro e w5 ⟨rfl, g5, hbl5, hs5, hg5⟩
        obtain ⟨hk5, hst5, hgt5⟩ := wrote hk2 hb Hst2.out Hg.out hbl2 hs5 hg5
        have Hst5 := hide hst5
        have Hgt5 := hide hgt5
        have c5 := hk5.c1
        have f5 := hk5.fr 1
        have hbr5 := hk5.lt
        have hll2 : (l ++ [ch]).length ≤ k + 1 := by rw [len_snoc]; omega
        clear hs5 hg5 hst5 hgt5 hk2 hbl2
        go_wp2_with fail
        go_roundw
        case rel => exact ⟨⟨k + 1, f, l ++ [ch], g5, hk5.set (k + 1) _ (by go_num), hbl5.stay (Stay.set1 _ _ _ _) (by omega) (fun q hq e => by have := Hgt5.out q hq; omega), Hgt5.out, by omega, by omega, by omega, hll2, by rw [HRk.out, map_step _ _ _ _ _ _ hpk]⟩, Hst5.out.setCell _ _ (fun _ => rfl)⟩
        case measure => have cwr := Hk.out.c1; go_simp; omega
      rw [if_neg epl] at HRk
      by_cases e92 : x0 = 92
      · rw [if_pos e92] at HRk
        subst e92
        go_wp2_with fail
        refine (escape_any b k s v p _ hk2 hm hlt).mono ?_
        have hesc := escS_len (rest s k)
        rw [rest_length] at hesc
        generalize escS (rest s k) = r at HRk hesc ⊢
        rcases r with t | x
        · clear hesc
          rintro e w3 ⟨ev, rfl, hfa, hbe⟩
          have HRf := hide HRk
          have hst3 : Stay w w3 (fun k => k = b) := Hst2.out.trans (Stay.of_below hbe (fun _ => False)) (fun _ _ e => e.elim)
          have hsz2 : w.heap.size ≤ w2.heap.size := Hst2.out.size
          obtain ⟨fb, hN, rfl, hfb⟩ := hfa
          go_wp2_with fail
          go_ret2
          cases t with
          | true => rw [HRk.out]; exact ⟨_, rfl, ⟨fb, by omega, rfl, hfb⟩, hst3⟩
          | false => rw [HRk.out]; exact ⟨_, rfl, ⟨fb, by omega, rfl, hfb⟩, hst3⟩
        · rintro e w3 ⟨rfl, hk3, hs3⟩
          have hk2s : k + 2 ≤ s.size := by have := hesc x rfl; omega
          clear hesc
          have hst3 : Stay w w3 (fun k => k = b) := Hst2.out.trans hs3 (fun _ _ h => h)
          have hbl3 := hbl2.stay hs3 (by omega) (fun q hq e => by have := Hg.out q hq; omega)
          go_wp2_with fail
          refine (writeByte_any bldT_own [] rfl w.heap.size g l x (n8 x) rfl _ hbl3 (by omega)).mono ?_
          rintro e w4 ⟨rfl, g4, hbl4, hs4, hg4⟩
          obtain ⟨hk4, hst4, hgt4⟩ := wrote hk3 hb hst3 Hg.out hbl3 hs4 hg4
          have hll2 : (l ++ [x]).length ≤ k + 2 := by rw [len_snoc]; omega
          have Hst4 := hide hst4
          have Hgt4 := hide hgt4
          clear hst4 hgt4 hs4 hg4 hs3 hst3
          go_wp2_with fail
          go_roundw
          case rel => exact ⟨⟨k + 2, f, l ++ [x], g4, hk4, hbl4, Hgt4.out, by omega, by omega, by omega, hll2, by rw [HRk.out, map_step _ _ _ _ _ _ hpk]⟩, Hst4.out⟩
          case measure => have cwr := Hk.out.c1; have c4 := hk4.c1; go_simp; omega
      · rw [if_neg e92] at HRk
        have c1 := hk2.c1
        have hpl : ¬ (32 ≤ x0 ∧ x0 ≤ 126) := fun h => epl ⟨h.1, h.2, e92⟩
        clear epl
        have hsz2 : w.heap.size ≤ w2.heap.size := Hst2.out.size
        by_cases e32 : 32 ≤ x0
        · have e126 : ¬ x0 ≤ 126 := by omega
          clear hpl
          go_wp2_with fail
          refine (new_any 80 _ (by decide) _).mono ?_
          rintro e w3 ⟨q, rfl, rfl, rfl⟩
          go_wp2_with fail
          go_ret2
          rw [HRk.out]
          exact ⟨_, rfl, ⟨_, hsz2, rfl, heap_alloc_new _ _⟩, Hst2.out.alloc _⟩
        · clear hpl
          go_wp2_with fail
          refine (new_any 80 _ (by decide) _).mono ?_
          rintro e w3 ⟨q, rfl, rfl, rfl⟩
          go_wp2_with fail
          go_ret2
          rw [HRk.out]
          exact ⟨_, rfl, ⟨_, hsz2, rfl, heap_alloc_new _ _⟩, Hst2.out.alloc _⟩
    · have hnl : decide (s.size ≤ k) = true := by simp; omega
      rw [rest_nil s k (by omega)] at HRk
      go_wp2_with fail
      refine (ended_any b k s v _ hk).mono ?_
      rintro e w1 ⟨rfl, hq1⟩
      have Hst1 : Hid (Stay w w1 (fun k => k = b)) := hide (Hst.out.trans (hq1.stay (fun k => k = b)) (fun _ _ h => h))
      have hsz1 : w.heap.size ≤ w1.heap.size := Hst1.out.size
      clear hq1
      rw [hnl]
      go_wp2_with fail
      refine (new_any 81 _ (by decide) _).mono ?_
      rintro e w3 ⟨q, rfl, rfl, rfl⟩
      go_wp2_with fail
      go_ret2
      rw [HRk.out]
      exact ⟨_, rfl, ⟨_, hsz1, rfl, heap_alloc_new _ _⟩, Hst1.out.alloc _⟩
end Go.Proofs.YtgidbplaoijalaaGreatRDoor

/- The walks of package lex, 5: code. -/
namespace Go.Proofs.YtgidbplaoijalaaGreatRDoor
set_option linter.unusedSimpArgs false
open Go.RowKit Go.Proofs.YtgidbplaoijalaaGreatRDoorW.PrintWords
set_option linter.unusedVariables false

theorem wrap_n8 (x : UInt8) : wrap64 (n8 x) = n8 x := by
  have := x.toNat_lt
  unfold wrap64 n8
  omega

/-- What reading a number leaves (p: its place). -/
def NumPost (b p : Nat) (s : ByteArray) (v : Value) (w : World) (r : Except (Int × Int) (Int × Nat)) (e : Ending) (w' : World) : Prop :=
  match r with
  | .ok (x, n) => e = .returned (.tuple #[.int .i64 x, .nilIface]) ∧ Scan b s (p + n) v w' ∧ Stay w w' (fun k => k = b)
  | .error (c, a) => ∃ ev x q, e = .returned (.tuple #[.int .i64 x, ev]) ∧ Fault w.heap.size ev c a w' ∧ Scan b s q v w' ∧ p ≤ q ∧ q ≤ s.size ∧ Stay w w' (fun k => k = b)

set_option maxHeartbeats 2000000 in
set_option maxRecDepth 100000 in
theorem code_any (b p : Nat) (s : ByteArray) (v : Value) (w : World) (h : Scan b s p v w) (hm : s.size ≤ 16384) (hp : p + 2 ≤ s.size) :
    Calls Tryz.prog 147 #[.pointer (some ⟨b, 0, none⟩)] w (NumPost b p s v w (codeS (rest s p) p)) := by
  have c0 := h.c0
  have c1 := h.c1
  have f1 := h.fr 1
  have hb := h.lt
  have hq : (rest s p).drop 2 = rest s (p + 2) := rest_drop s p 2
  have hlen := rest_length s (p + 2)
  have hR : codeS (rest s p) p = _ := rfl
  conv at hR => rhs; unfold codeS
  simp only [hq] at hR
  generalize codeS (rest s p) p = R at hR ⊢
  have HR := hide hR
  have H := hide h
  have Hlen := hide hlen
  clear hR h hq hlen
  go_enter Tryz.func147, Tryz.ntmps147
  go_wp2_with fail
  have hk0 := H.out.set (p + 2) (↑p + 2) (by go_num)
  refine (peek0 b (p + 2) s v _ hk0 hm hp).mono ?_
  rintro e w1 ⟨rfl, hq1⟩
  have hk1 := hk0.stay (hq1.stay (fun _ => False)) (fun e => e)
  have Hst1 : Hid (Stay w w1 (fun k => k = b)) := hide ((Stay.set1 w b 1 _).trans (hq1.stay (fun k => k = b)) (fun _ _ h => h))
  have hsz1 : w.heap.size ≤ w1.heap.size := Hst1.out.size
  clear hq1 hk0 c0 c1 f1
  have c0 := hk1.c0
  have c1 := hk1.c1
  have f1 := hk1.fr 1
  have Hk1 := hide hk1
  clear hk1
  generalize hx0 : pk (rest s (p + 2)) 0 = x0 at HR ⊢
  have Hx0 := hide hx0
  clear hx0
  by_cases hend : s.size ≤ p + 2
  · rw [if_pos (.inl (by rw [Hlen.out]; omega))] at HR
    go_wp2_with fail
    go_quiet ((go_at_call 77; exact Calls.quiet_of (ended_yes b (p + 2) s v _ (Hk1.out.drewN _) hend)))
    go_wp2_with fail
    refine (new_any 81 _ (by decide) _).mono ?_
    rintro e w3 ⟨q, rfl, rfl, rfl⟩
    go_wp2_with fail
    go_ret2
    rw [HR.out]
    exact ⟨_, 0, p + 2, rfl, ⟨_, hsz1, rfl, heap_alloc_new _ _⟩, (Hk1.out.stay (S := fun _ => False) ((Stay.drewN (Stay.refl _ _) _).alloc _) (fun e => e)), by omega, by omega, (Hst1.out.drewN _).alloc _⟩
  have hend : p + 2 < s.size := by omega
  have c0x : x0 = n8 ((rest s (p + 2)).getD 0 0) := Hx0.out.symm
  have Hc0 := hide c0x
  clear c0x
  by_cases e39 : x0 = 39
  · by_cases hend2 : s.size ≤ p + 3
    · rw [if_pos (.inr ⟨e39, by rw [Hlen.out]; omega⟩)] at HR
      subst e39
      go_wp2_with fail
      go_quiet ((go_at_call 77; exact Calls.quiet_of (ended_no b (p + 2) s v _ (Hk1.out.drewN _) hend)))
      go_wp2_with fail
      refine (new_any 81 _ (by decide) _).mono ?_
      rintro e w3 ⟨q, rfl, rfl, rfl⟩
      go_wp2_with fail
      go_ret2
      rw [HR.out]
      exact ⟨_, 0, p + 2, rfl, ⟨_, hsz1, rfl, heap_alloc_new _ _⟩, (Hk1.out.stay (S := fun _ => False) ((Stay.drewN (Stay.refl _ _) _).alloc _) (fun e => e)), by omega, by omega, (Hst1.out.drewN _).alloc _⟩
    rw [if_neg (by rw [Hlen.out]; omega), if_neg (by omega)] at HR
    by_cases e39' : pk (rest s (p + 2)) 1 = 39
    · rw [if_neg (by omega), if_pos e39] at HR
      subst e39
      go_wp2_with fail
      go_quiet ((go_at_call 77; exact Calls.quiet_of (ended_no b (p + 2) s v _ (Hk1.out.drewN _) hend)))
      go_wp2_with fail
      refine (peek1 b (p + 2) s v _ (Hk1.out.drewN _) hm (by omega)).mono ?_
      rintro e w2 ⟨rfl, hq2⟩
      have hk2 := (Hk1.out.drewN nq).stay (hq2.stay (fun _ => False)) (fun e => e)
      have Hst2 : Hid (Stay w w2 (fun k => k = b)) := hide ((Hst1.out.drewN nq).trans (hq2.stay (fun k => k = b)) (fun _ _ h => h))
      clear hq2
      rw [e39']
      have d1 := hk2.c1
      have g1 := hk2.fr 1
      have hbr := hk2.lt
      have Hk2 := hide hk2
      clear e39' hk2 c0 c1 f1
      go_wp2_with fail
      go_ret2
      rw [HR.out]
      exact ⟨rfl, (Hk2.out.set (p + 3) _ (by go_num)).set (p + 4) _ (by go_num), (Hst2.out.setCell _ _ (fun _ => rfl)).setCell _ _ (fun _ => rfl)⟩
    · rw [if_pos (.inl ⟨e39, e39'⟩)] at HR
      subst e39
      go_wp2_with fail
      go_quiet ((go_at_call 77; exact Calls.quiet_of (ended_no b (p + 2) s v _ (Hk1.out.drewN _) hend)))
      go_wp2_with fail
      refine (peek1 b (p + 2) s v _ (Hk1.out.drewN _) hm (by omega)).mono ?_
      rintro e w2 ⟨rfl, hq2⟩
      have hk2 := (Hk1.out.drewN nq).stay (hq2.stay (fun _ => False)) (fun e => e)
      have Hst2 : Hid (Stay w w2 (fun k => k = b)) := hide ((Hst1.out.drewN nq).trans (hq2.stay (fun k => k = b)) (fun _ _ h => h))
      clear hq2
      have d1 := hk2.c1
      have g1 := hk2.fr 1
      have hbr := hk2.lt
      have Hk2 := hide hk2
      clear hk2 c0 c1 f1
      generalize pk (rest s (p + 2)) 1 = x1 at e39' ⊢
      go_wp2_with fail
      refine (new_any 80 _ (by decide) _).mono ?_
      rintro e w9 ⟨q, rfl, rfl, rfl⟩
      go_wp2_with fail
      go_ret2
      rw [HR.out]
      exact ⟨_, 0, p + 2, by go_num, ⟨_, Hst2.out.size, rfl, heap_alloc_new _ _⟩, (Hk2.out.stay (S := fun _ => False) ((Stay.refl _ _).alloc _) (fun e => e)), by omega, by omega, Hst2.out.alloc _⟩
  rw [if_neg (by rw [Hlen.out]; omega)] at HR
  by_cases e92 : x0 = 92
  · rw [if_pos e92] at HR
    subst e92
    go_wp2_with fail
    go_quiet ((go_at_call 77; exact Calls.quiet_of (ended_no b (p + 2) s v _ (Hk1.out.drewN _) hend)))
    go_wp2_with fail
    refine (escape_any b (p + 2) s v p _ (Hk1.out.drewN _) hm (by omega)).mono ?_
    generalize escS (rest s (p + 2)) = r at HR ⊢
    rcases r with t | x
    · rintro e w3 ⟨ev, rfl, hfa, hbe⟩
      have hst3 : Stay w w3 (fun k => k = b) := (Hst1.out.drewN nq).trans (Stay.of_below hbe (fun _ => False)) (fun _ _ e => e.elim)
      have hk3 := (Hk1.out.drewN nq).stay (Stay.of_below hbe (fun _ => False)) (fun e => e)
      obtain ⟨fb, hN, rfl, hfb⟩ := hfa
      have Hst3 := hide hst3
      have Hk3 := hide hk3
      clear hst3 hk3 hbe
      go_wp2_with fail
      go_ret2
      cases t with
      | true => rw [HR.out]; exact ⟨_, 0, p + 2, by go_num, ⟨fb, by have := hsz1; have : w1.heap.size = (w1.drewN nq).heap.size := rfl; omega, rfl, hfb⟩, Hk3.out, by omega, by omega, Hst3.out⟩
      | false => rw [HR.out]; exact ⟨_, 0, p + 2, by go_num, ⟨fb, by have := hsz1; have : w1.heap.size = (w1.drewN nq).heap.size := rfl; omega, rfl, hfb⟩, Hk3.out, by omega, by omega, Hst3.out⟩
    · rintro e w3 ⟨rfl, hk3, hs3⟩
      have hx := x.toNat_lt
      go_wp2_with fail
      go_ret2
      rw [HR.out]
      exact ⟨by rw [wrap_n8]; rfl, hk3, (Hst1.out.drewN nq).trans hs3 (fun _ _ h => h)⟩
  rw [if_neg e92] at HR
  have e39f : (x0 == 39) = false := by simpa using e39
  by_cases ebad : x0 < 32 ∨ 126 < x0
  · rw [if_pos (.inr ebad)] at HR
    go_wp2_with fail
    go_quiet ((go_at_call 77; exact Calls.quiet_of (ended_no b (p + 2) s v _ (Hk1.out.drewN _) hend)))
    rcases ebad with eb | eb
    · go_wp2_with fail
      refine (new_any 80 _ (by decide) _).mono ?_
      rintro e w9 ⟨q, rfl, rfl, rfl⟩
      go_wp2_with fail
      go_ret2
      rw [HR.out]
      exact ⟨_, 0, p + 2, by go_num, ⟨_, Hst1.out.size, rfl, heap_alloc_new _ _⟩, ((Hk1.out.drewN nq).stay (S := fun _ => False) ((Stay.refl _ _).alloc _) (fun e => e)), by omega, by omega, (Hst1.out.drewN nq).alloc _⟩
    · go_wp2_with fail
      refine (new_any 80 _ (by decide) _).mono ?_
      rintro e w9 ⟨q, rfl, rfl, rfl⟩
      go_wp2_with fail
      go_ret2
      rw [HR.out]
      exact ⟨_, 0, p + 2, by go_num, ⟨_, Hst1.out.size, rfl, heap_alloc_new _ _⟩, ((Hk1.out.drewN nq).stay (S := fun _ => False) ((Stay.refl _ _).alloc _) (fun e => e)), by omega, by omega, (Hst1.out.drewN nq).alloc _⟩
  · rw [if_neg (by omega), if_neg e39] at HR
    go_wp2_with fail
    go_quiet ((go_at_call 77; exact Calls.quiet_of (ended_no b (p + 2) s v _ (Hk1.out.drewN _) hend)))
    go_wp2_with fail
    go_ret2
    rw [HR.out]
    exact ⟨by go_num, (Hk1.out.drewN nq).set (p + 3) _ (by go_num), (Hst1.out.drewN _).setCell _ _ (fun _ => rfl)⟩
end Go.Proofs.YtgidbplaoijalaaGreatRDoor

/- errors.Is, held against a variable of errors.New's make: of nil, and of a *strconv.NumError that wraps it. (After the kit's worked text SentryIs.) -/
namespace Go.Proofs.YtgidbplaoijalaaGreatRDoor
set_option linter.unusedSimpArgs false
open Go.RowKit Go.Extern.Stop Go.Stop Go.Extern
set_option linter.unusedVariables false

theorem eis_typeOf (v : Value) (w : World) : (callFunc 131 #[.iface 284 v]).run Tryz.prog w = .ok (.value (.iface 198 (.agg #[.pointer (some ⟨9, 284, none⟩)]))) w := by kernel_rfl
theorem eis_comparable (w : World) : (callFunc 237 #[.agg #[.pointer (some ⟨9, 284, none⟩)]]).run Tryz.prog w = .ok (.value (.bool true)) w := by kernel_rfl
theorem eis_comp : (Tryz.prog.info? 284).map (·.comparable) = some true := by kernel_rfl
theorem eis_size : (Tryz.prog.info? 286).map (·.size) = some 1 := by kernel_rfl
theorem eis_noIs (v : Value) (xT : TypeId) (w : World) : (Instr.typeAssert (.iface 267 v) xT 270 true).run Tryz.prog w = .ok (.tuple #[.nilIface, .bool false]) w := run_typeAssert_lacksB Tryz.underlying270 (by kernel_rfl) (by kernel_rfl) v xT w
theorem eis_hasUnwrap (v : Value) (xT : TypeId) (w : World) : (Instr.typeAssert (.iface 267 v) xT 206 true).run Tryz.prog w = .ok (.tuple #[.iface 267 v, .bool true]) w := run_typeAssert_hasB Tryz.underlying206 (by kernel_rfl) v xT w

/-- errors.Is(nil, x). -/
theorem eis_nil (b : Addr) (w : World) :
    Calls Tryz.prog 149 #[.nilIface, .iface 284 (.pointer (some b))] w fun e w' => e = .returned (.bool false) ∧ w' = w := by
  have hn := run_eql_iface_nil_left (P := Tryz.prog) w 284 (.pointer (some b)) Tryz.underlying38
  go_enter Tryz.func149, Tryz.ntmps149
  go_wp2
  go_ret
  exact ⟨rfl, rfl⟩

theorem eis_methodComparable (v : Value) (w : World) : (Go.method 415 198 v "Comparable").run Tryz.prog w = .ok (237, v) w := by kernel_rfl
theorem eis_methodUnwrap (v : Value) (w : World) : (Go.method 415 267 v "Unwrap").run Tryz.prog w = .ok (248, v) w := by kernel_rfl

set_option maxHeartbeats 1000000 in
set_option maxRecDepth 100000 in
/-- errors.Is(e, x), e a *strconv.NumError that wraps x itself. -/
theorem eis_wrapped (pb : Nat) (b : Addr) (w : World) (h1 : w.cell? ⟨pb, 2, none⟩ = some (.iface 284 (.pointer (some b)))) :
    Calls Tryz.prog 149 #[.iface 267 (.pointer (some ⟨pb, 0, none⟩)), .iface 284 (.pointer (some b))] w fun e w' => e = .returned (.bool true) ∧ w' = w := by
  obtain ⟨i, hi, hcmp⟩ := Option.map_eq_some_iff.1 eis_comp
  obtain ⟨j, hj, hjs⟩ := Option.map_eq_some_iff.1 eis_size
  have tT := eis_typeOf
  have cT := eis_comparable
  have mR := eis_methodComparable
  have nW := eis_noIs
  have uW := eis_hasUnwrap
  have mU := eis_methodUnwrap
  have heq := run_eql_iface_ptr_same (P := Tryz.prog) w b Tryz.underlying38 Tryz.underlying284 hi hcmp hj
  have hty := run_eql_iface_types (P := Tryz.prog) 267 284 (.pointer (some ⟨pb, 0, none⟩)) (.pointer (some b)) Tryz.underlying38 (by decide) w
  go_enter Tryz.func149, Tryz.ntmps149
  go_wp2
  refine wp_loop_rounds 2 ?_
  rw [rounds_succ]
  go_wp2
  rw [rounds_succ]
  go_wp2
  go_ret
  exact ⟨rfl, rfl⟩
end Go.Proofs.YtgidbplaoijalaaGreatRDoor

/- The walks of package lex, 6: number. -/
namespace Go.Proofs.YtgidbplaoijalaaGreatRDoor
set_option linter.unusedSimpArgs false
open Go.RowKit Go.Proofs.YtgidbplaoijalaaGreatRDoorW.PrintWords
set_option linter.unusedVariables false

def digs (l : List UInt8) : Prop := ∀ c ∈ l, 48 ≤ c.toNat ∧ c.toNat ≤ 57
theorem dec_ge (l : List UInt8) : ∀ acc : Nat, acc ≤ l.foldl (fun a c => a * 10 + (c.toNat - 48)) acc := by
  induction l with
  | nil => intro acc; simp
  | cons c r ih => intro acc; simp only [List.foldl_cons]; have := ih (acc * 10 + (c.toNat - 48)); omega
theorem parseM (l : List UInt8) (hd : digs l) : ∀ acc : Nat, acc ≤ 18446744073709551615 →
    Lib.parseUintM (2 ^ 64 - 1) acc l = if l.foldl (fun a c => a * 10 + (c.toNat - 48)) acc ≤ 18446744073709551615 then .ok (l.foldl (fun a c => a * 10 + (c.toNat - 48)) acc) else .range := by
  induction l with
  | nil => intro acc h; simp [Lib.parseUintM, h]
  | cons c r ih =>
    intro acc h
    have hc := hd c List.mem_cons_self
    have hr : digs r := fun x hx => hd x (List.mem_cons_of_mem _ hx)
    show Lib.parseUintM (2 ^ 64 - 1) acc (c :: r) = if r.foldl (fun a c => a * 10 + (c.toNat - 48)) (acc * 10 + (c.toNat - 48)) ≤ 18446744073709551615 then .ok (r.foldl (fun a c => a * 10 + (c.toNat - 48)) (acc * 10 + (c.toNat - 48))) else .range
    rw [Lib.parseUintM, if_pos hc]
    have hge := dec_ge r (acc * 10 + (c.toNat - 48))
    by_cases h1 : 1844674407370955162 ≤ acc
    · rw [if_pos h1, if_neg (by omega)]
    · rw [if_neg h1]
      by_cases h2 : 2 ^ 64 - 1 < acc * 10 + (c.toNat - 48)
      · rw [if_pos h2, if_neg (by omega)]
      · rw [if_neg h2]; exact ih hr _ (by omega)
theorem parseB (l : List UInt8) (hd : digs l) (h0 : l ≠ []) : Lib.parseIntB 64 l = if 9223372036854775807 < decS l then .range else .ok (decS l : Int) := by
  obtain ⟨c, r, rfl⟩ := List.exists_cons_of_ne_nil h0
  have hc := hd c List.mem_cons_self
  have hu : Lib.parseUintB 64 (c :: r) = if decS (c :: r) ≤ 18446744073709551615 then .ok (decS (c :: r)) else .range := by
    unfold Lib.parseUintB
    rw [if_neg (by simp)]
    exact parseM _ hd 0 (by omega)
  unfold Lib.parseIntB
  simp only
  rw [if_neg (by omega), hu]
  generalize decS (c :: r) = d
  by_cases h1 : d ≤ 18446744073709551615
  · rw [if_pos h1]
    simp only
    by_cases h2 : 9223372036854775807 < d
    · rw [if_pos h2, if_pos ⟨by omega, by omega⟩]
    · rw [if_neg h2, if_neg (by omega), if_neg (by omega), if_neg (by omega)]
  · rw [if_neg h1, if_pos (by omega)]
theorem digs_run (r : List UInt8) : digs (r.take (runS digitB r)) := by
  induction r with
  | nil => intro c hc; simp [runS] at hc
  | cons c r ih =>
    simp only [runS]
    split
    · rename_i h
      intro x hx
      rw [List.take_succ_cons] at hx
      rcases List.mem_cons.1 hx with rfl | hx
      · unfold digitB n8 at h
        simp at h
        omega
      · exact ih x hx
    · intro x hx; simp at hx

/-- The variable strconv.ErrRange, as it is laid. -/
def RangeVar (w : World) : Prop := ∃ a : Addr, w.cell? ⟨2, 0, none⟩ = some (.iface 284 (.pointer (some a)))

theorem parse_ok (t : ByteArray) (ht : t.size ≤ 16384) (x : Int) (h : Lib.parseIntB 64 t.data.toList = .ok x) (w : World) :
    Calls Tryz.prog 148 #[.string t, .int .i64 10, .int .i64 64] w fun e w' => e = .returned (.tuple #[.int .i64 x, .nilIface]) ∧ Below w.heap.size w w' := by
  refine (Tryz.strconv_ParseInt_10_at64_ok t (by omega) x h w).mono ?_
  rintro e w' ⟨rfl, h | ⟨t', h⟩⟩
  · subst h; exact ⟨rfl, Below.refl _ _⟩
  · subst h; exact ⟨rfl, Lib.bytesWorld_below _ _ _⟩

theorem parse_range (t : ByteArray) (ht : t.size ≤ 16384) (h : Lib.parseIntB 64 t.data.toList = .range) (a : Addr) (w : World) (hv : w.cell? ⟨2, 0, none⟩ = some (.iface 284 (.pointer (some a)))) :
    Calls Tryz.prog 148 #[.string t, .int .i64 10, .int .i64 64] w fun e w' => ∃ N x, e = .returned (.tuple #[.int .i64 x, .iface 267 (.pointer (some ⟨N, 0, none⟩))]) ∧ w'.cell? ⟨N, 2, none⟩ = some (.iface 284 (.pointer (some a))) ∧ Below w.heap.size w w' := by
  refine (Tryz.strconv_ParseInt_10_at64_range t (by omega) h _ w hv (.inr ⟨_, _, rfl⟩)).mono ?_
  rintro e w' ⟨N, rfl, hN, hc, hb⟩
  refine ⟨N, _, rfl, ?_, hb⟩
  simp [World.cell?, hc]

set_option maxHeartbeats 2000000 in
set_option maxRecDepth 100000 in
theorem number_any (b p : Nat) (s : ByteArray) (v : Value) (w : World) (h : Scan b s p v w) (hm : s.size ≤ 16384) (hp : p < s.size) (hd : digitB (pk (rest s p) 0) = true) (hG : RangeVar w) (hbg : 9 ≤ b) :
    Calls Tryz.prog 117 #[.pointer (some ⟨b, 0, none⟩)] w (NumPost b p s v w (numS (rest s p) p)) := by
  have c0 := h.c0
  have c1 := h.c1
  have hb := h.lt
  have hR : numS (rest s p) p = _ := rfl
  conv at hR => rhs; unfold numS
  generalize numS (rest s p) p = R at hR ⊢
  have HR := hide hR
  have H := hide h
  have HG := hide hG
  have Hd := hide hd
  clear hR h hG hd
  by_cases hcode : pk (rest s p) 0 = 48 ∧ pk (rest s p) 1 = 39
  · rw [if_pos hcode] at HR
    have hlt2 : p + 1 < s.size := by
      by_cases h : p + 1 < s.size
      · exact h
      · have := hcode.2; rw [pk_out s p 1 (by omega)] at this; omega
    obtain ⟨h48, h39⟩ := hcode
    have H48 := hide h48
    have H39 := hide h39
    clear h48 h39
    go_enter Tryz.func117, Tryz.ntmps117
    go_wp2_with fail
    refine (peek0 b p s v _ H.out hm (by omega)).mono ?_
    rintro e w1 ⟨rfl, hq1⟩
    have hk1 := H.out.stay (hq1.stay (fun _ => False)) (fun e => e)
    have hst1 := hq1.stay (fun k => k = b)
    rw [H48.out]
    go_wp2_with fail
    refine (peek1 b p s v _ hk1 hm (by omega)).mono ?_
    rintro e w2 ⟨rfl, hq2⟩
    have hk2 := hk1.stay (hq2.stay (fun _ => False)) (fun e => e)
    have hst2 : Stay w w2 (fun k => k = b) := hst1.trans (hq2.stay (fun k => k = b)) (fun _ _ h => h)
    have Hst2 := hide hst2
    clear hst1 hst2 hq1 hq2 hk1
    rw [H39.out]
    go_wp2_with fail
    refine (code_any b p s v _ hk2 hm (by omega)).mono ?_
    rw [← HR.out]
    intro e w3 h3
    cases R with
    | ok r =>
      obtain ⟨rfl, hk3, hs3⟩ := h3
      go_wp2_with fail
      go_ret2
      exact ⟨rfl, hk3, Hst2.out.trans hs3 (fun _ _ h => h)⟩
    | error r =>
      obtain ⟨ev, x, q, rfl, hf, hk3, hq1, hq2, hs3⟩ := h3
      go_wp2_with fail
      go_ret2
      exact ⟨_, _, q, rfl, hf.mono Hst2.out.size, hk3, hq1, hq2, Hst2.out.trans hs3 (fun _ _ h => h)⟩
  · rw [if_neg hcode] at HR
    have Hn1 : Hid (1 ≤ runS digitB (rest s p)) := by
      rw [runS_at digitB s p hp, if_pos Hd.out]
      exact Nat.le_add_left _ _
    have Hn2 : Hid (p + runS digitB (rest s p) ≤ s.size) := by
      have h1 := runS_le digitB (rest s p)
      rw [rest_length] at h1
      have : p + runS digitB (rest s p) ≤ s.size := by omega
      exact this
    have Hdg := hide (digs_run (rest s p))
    have Hne : Hid ((rest s p).take (runS digitB (rest s p)) ≠ []) := by
      have h1 := rest_length s p
      have h2 := Hn1.out
      intro h
      have h3 := congrArg List.length h
      rw [List.length_take, List.length_nil] at h3
      omega
    by_cases h48 : pk (rest s p) 0 = 48
    · have h39 : ¬ pk (rest s p) 1 = 39 := fun h => hcode ⟨h48, h⟩
      have H48 := hide h48
      clear hcode h48
      go_enter Tryz.func117, Tryz.ntmps117
      go_wp2_with fail
      refine (peek0 b p s v _ H.out hm (by omega)).mono ?_
      rintro e w1 ⟨rfl, hq1⟩
      have hk1 := H.out.stay (hq1.stay (fun _ => False)) (fun e => e)
      have hst1 := hq1.stay (fun k => k = b)
      rw [H48.out]
      go_wp2_with fail
      refine (peek1 b p s v _ hk1 hm (by omega)).mono ?_
      rintro e w2 ⟨rfl, hq2⟩
      have hk2 := hk1.stay (hq2.stay (fun _ => False)) (fun e => e)
      have hst2 : Stay w w2 (fun k => k = b) := hst1.trans (hq2.stay (fun k => k = b)) (fun _ _ h => h)
      have Hst2 := hide hst2
      clear hst1 hst2 hq1 hq2 hk1
      generalize pk (rest s p) 1 = x1 at h39 ⊢
      go_wp2_with fail
      refine (while_digit b p s v _ hk2 hm (by omega)).mono ?_
      rintro e w3 ⟨rfl, hk3, hs3⟩
      have hst3 : Stay w w3 (fun k => k = b) := Hst2.out.trans hs3 (fun _ _ h => h)
      have hsl := slice_at s p (p + runS digitB (rest s p)) (Nat.le_add_right _ _) Hn2.out
      rw [Nat.add_sub_cancel_left] at hsl
      have hpb : _ := parseB ((rest s p).take (runS digitB (rest s p))) Hdg.out (Hne.out)
      generalize decS ((rest s p).take (runS digitB (rest s p))) = dv at HR hpb
      rw [← bs_list ((rest s p).take (runS digitB (rest s p)))] at hpb
      have htl : (bs ((rest s p).take (runS digitB (rest s p)))).size ≤ 16384 := by rw [bs_size, List.length_take]; have := Hn2.out; omega
      generalize bs ((rest s p).take (runS digitB (rest s p))) = tx at hsl hpb htl
      have Hfin : Hid (Scan b s (p + runS digitB (rest s p)) v w3) := hk3
      have Hle := Hn2
      generalize hqn : p + runS digitB (rest s p) = q at hsl hk3 Hle
      have Hqn := hide hqn
      have d0 := hk3.c0
      have d1 := hk3.c1
      have Hk3 := hide hk3
      have Hst3 := hide hst3
      have Hpb := hide hpb
      clear hk3 hst3 hs3 hk2 c0 c1 hqn hpb
      obtain ⟨a, ha⟩ := HG.out
      have hg3 := Hst3.out.cell ha (by show ¬ 2 = b; omega)
      go_wp2_with fail
      by_cases hbig : 9223372036854775807 < dv
      · rw [if_pos hbig] at HR Hpb
        go_region_with (go_at_call 148; refine (parse_range tx htl Hpb.out a w3.drew hg3).mono ?_; rintro e w4 ⟨N, x, rfl, hN, hb4⟩)
        all_goals
          have hst4 : Stay w w4 (fun k => k = b) := (Hst3.out.drew).trans (Stay.of_below hb4 (fun _ => False)) (fun _ _ h => h.elim)
          have hk4 : Scan b s q v w4 := Hk3.out.stay (S := fun _ => False) (((Stay.refl _ _).drew).trans (Stay.of_below hb4 _) (fun _ _ h => h)) (fun e => e)
          have hg4 := hst4.cell ha (by show ¬ 2 = b; omega)
          have Hst4 := hide hst4
          have Hk4 := hide hk4
          clear hst4 hk4 d0 d1 hb4 hg3
          go_wp2_with fail
          refine (eis_wrapped N a _ hN).mono ?_
          rintro e w5 ⟨rfl, rfl⟩
          go_wp2_with fail
          refine (new_any 83 _ (by decide) _).mono ?_
          rintro e w6 ⟨q', rfl, rfl, rfl⟩
          go_wp2_with fail
          go_ret2
          rw [HR.out]
          exact ⟨_, 0, q, rfl, ⟨_, Hst4.out.size, rfl, heap_alloc_new _ _⟩, Hk4.out.stay (S := fun _ => False) ((Stay.refl _ _).alloc _) (fun e => e), by have := Hqn.out; omega, Hle.out, Hst4.out.alloc _⟩
      · rw [if_neg hbig] at HR Hpb
        go_region_with (go_at_call 148; refine (parse_ok tx htl (dv : Int) Hpb.out _).mono ?_; rintro e w4 ⟨rfl, hb4⟩)
        all_goals
          have hst4 : Stay w w4 (fun k => k = b) := (Hst3.out.drew).trans (Stay.of_below hb4 (fun _ => False)) (fun _ _ h => h.elim)
          have hk4 : Scan b s q v w4 := Hk3.out.stay (S := fun _ => False) (((Stay.refl _ _).drew).trans (Stay.of_below hb4 _) (fun _ _ h => h)) (fun e => e)
          have hg4 := hst4.cell ha (by show ¬ 2 = b; omega)
          have Hst4 := hide hst4
          have Hk4 := hide hk4
          clear hst4 hk4 d0 d1 hb4 hg3
          go_wp2_with fail
          refine (eis_nil a _).mono ?_
          rintro e w5 ⟨rfl, rfl⟩
          go_wp2_with fail
          go_ret2
          rw [HR.out]
          exact ⟨rfl, by rw [Hqn.out]; exact Hk4.out, Hst4.out⟩
    · clear hcode
      go_enter Tryz.func117, Tryz.ntmps117
      go_wp2_with fail
      refine (peek0 b p s v _ H.out hm (by omega)).mono ?_
      rintro e w1 ⟨rfl, hq1⟩
      have hk2 := H.out.stay (hq1.stay (fun _ => False)) (fun e => e)
      have hst2 := hq1.stay (fun k => k = b)
      have Hst2 := hide hst2
      clear hst2 hq1
      generalize pk (rest s p) 0 = x1 at h48 Hd ⊢
      go_wp2_with fail
      refine (while_digit b p s v _ hk2 hm (by omega)).mono ?_
      rintro e w3 ⟨rfl, hk3, hs3⟩
      have hst3 : Stay w w3 (fun k => k = b) := Hst2.out.trans hs3 (fun _ _ h => h)
      have hsl := slice_at s p (p + runS digitB (rest s p)) (Nat.le_add_right _ _) Hn2.out
      rw [Nat.add_sub_cancel_left] at hsl
      have hpb : _ := parseB ((rest s p).take (runS digitB (rest s p))) Hdg.out (Hne.out)
      generalize decS ((rest s p).take (runS digitB (rest s p))) = dv at HR hpb
      rw [← bs_list ((rest s p).take (runS digitB (rest s p)))] at hpb
      have htl : (bs ((rest s p).take (runS digitB (rest s p)))).size ≤ 16384 := by rw [bs_size, List.length_take]; have := Hn2.out; omega
      generalize bs ((rest s p).take (runS digitB (rest s p))) = tx at hsl hpb htl
      have Hfin : Hid (Scan b s (p + runS digitB (rest s p)) v w3) := hk3
      have Hle := Hn2
      generalize hqn : p + runS digitB (rest s p) = q at hsl hk3 Hle
      have Hqn := hide hqn
      have d0 := hk3.c0
      have d1 := hk3.c1
      have Hk3 := hide hk3
      have Hst3 := hide hst3
      have Hpb := hide hpb
      clear hk3 hst3 hs3 hk2 c0 c1 hqn hpb
      obtain ⟨a, ha⟩ := HG.out
      have hg3 := Hst3.out.cell ha (by show ¬ 2 = b; omega)
      go_wp2_with fail
      by_cases hbig : 9223372036854775807 < dv
      · rw [if_pos hbig] at HR Hpb
        go_region_with (go_at_call 148; refine (parse_range tx htl Hpb.out a w3.drew hg3).mono ?_; rintro e w4 ⟨N, x, rfl, hN, hb4⟩)
        all_goals
          have hst4 : Stay w w4 (fun k => k = b) := (Hst3.out.drew).trans (Stay.of_below hb4 (fun _ => False)) (fun _ _ h => h.elim)
          have hk4 : Scan b s q v w4 := Hk3.out.stay (S := fun _ => False) (((Stay.refl _ _).drew).trans (Stay.of_below hb4 _) (fun _ _ h => h)) (fun e => e)
          have hg4 := hst4.cell ha (by show ¬ 2 = b; omega)
          have Hst4 := hide hst4
          have Hk4 := hide hk4
          clear hst4 hk4 d0 d1 hb4 hg3
          go_wp2_with fail
          refine (eis_wrapped N a _ hN).mono ?_
          rintro e w5 ⟨rfl, rfl⟩
          go_wp2_with fail
          refine (new_any 83 _ (by decide) _).mono ?_
          rintro e w6 ⟨q', rfl, rfl, rfl⟩
          go_wp2_with fail
          go_ret2
          rw [HR.out]
          exact ⟨_, 0, q, rfl, ⟨_, Hst4.out.size, rfl, heap_alloc_new _ _⟩, Hk4.out.stay (S := fun _ => False) ((Stay.refl _ _).alloc _) (fun e => e), by have := Hqn.out; omega, Hle.out, Hst4.out.alloc _⟩
      · rw [if_neg hbig] at HR Hpb
        go_region_with (go_at_call 148; refine (parse_ok tx htl (dv : Int) Hpb.out _).mono ?_; rintro e w4 ⟨rfl, hb4⟩)
        all_goals
          have hst4 : Stay w w4 (fun k => k = b) := (Hst3.out.drew).trans (Stay.of_below hb4 (fun _ => False)) (fun _ _ h => h.elim)
          have hk4 : Scan b s q v w4 := Hk3.out.stay (S := fun _ => False) (((Stay.refl _ _).drew).trans (Stay.of_below hb4 _) (fun _ _ h => h)) (fun e => e)
          have hg4 := hst4.cell ha (by show ¬ 2 = b; omega)
          have Hst4 := hide hst4
          have Hk4 := hide hk4
          clear hst4 hk4 d0 d1 hb4 hg3
          go_wp2_with fail
          refine (eis_nil a _).mono ?_
          rintro e w5 ⟨rfl, rfl⟩
          go_wp2_with fail
          go_ret2
          rw [HR.out]
          exact ⟨rfl, by rw [Hqn.out]; exact Hk4.out, Hst4.out⟩
end Go.Proofs.YtgidbplaoijalaaGreatRDoor

/- The walks of package lex, 7: token. (Made by wip/bin/gen_lex7.py.) -/
namespace Go.Proofs.YtgidbplaoijalaaGreatRDoor
set_option linter.unusedSimpArgs false
open Go.RowKit Go.Proofs.YtgidbplaoijalaaGreatRDoorW.PrintWords
set_option linter.unusedVariables false

/-- A token that lies in a block of its own. -/
def Tk (q : Nat) (k : Int) (t : ByteArray) (n a : Int) (u x : Bool) (w : World) : Prop := w.heap[q]? = some (.cells [.int .i64 k, .string t, .int .i64 n, .int .i64 a, .bool u, .bool x].toArray 139 (0, 0))
theorem Tk.stay {q : Nat} {k n a : Int} {t : ByteArray} {u x : Bool} {w w1 : World} {S : Nat → Prop} (h : Tk q k t n a u x w) (hs : Stay w w1 S) (hn : ¬ S q) : Tk q k t n a u x w1 := (hs.block q (lt_of h) hn).trans h

theorem Tk.s0 {q : Nat} {k n a : Int} {t : ByteArray} {u x : Bool} {w : World} (h : Tk q k t n a u x w) (y : Int) : Tk q y t n a u x (w.setCell ⟨q, 0, none⟩ (.int .i64 y)) := set_of h 0 _
theorem Tk.s1 {q : Nat} {k n a : Int} {t : ByteArray} {u x : Bool} {w : World} (h : Tk q k t n a u x w) (y : ByteArray) : Tk q k y n a u x (w.setCell ⟨q, 1, none⟩ (.string y)) := set_of h 1 _
theorem Tk.s2 {q : Nat} {k n a : Int} {t : ByteArray} {u x : Bool} {w : World} (h : Tk q k t n a u x w) (y : Int) : Tk q k t y a u x (w.setCell ⟨q, 2, none⟩ (.int .i64 y)) := set_of h 2 _
theorem Tk.s3 {q : Nat} {k n a : Int} {t : ByteArray} {u x : Bool} {w : World} (h : Tk q k t n a u x w) (y : Int) : Tk q k t n y u x (w.setCell ⟨q, 3, none⟩ (.int .i64 y)) := set_of h 3 _
theorem Tk.s4 {q : Nat} {k n a : Int} {t : ByteArray} {u x : Bool} {w : World} (h : Tk q k t n a u x w) (y : Bool) : Tk q k t n a y x (w.setCell ⟨q, 4, none⟩ (.bool y)) := set_of h 4 _
theorem Tk.s5 {q : Nat} {k n a : Int} {t : ByteArray} {u x : Bool} {w : World} (h : Tk q k t n a u x w) (y : Bool) : Tk q k t n a u y (w.setCell ⟨q, 5, none⟩ (.bool y)) := set_of h 5 _
theorem Tk.drew {q : Nat} {k n a : Int} {t : ByteArray} {u x : Bool} {w : World} (h : Tk q k t n a u x w) : Tk q k t n a u x w.drew := h
theorem Tk.drewN {q : Nat} {k n a : Int} {t : ByteArray} {u x : Bool} {w : World} (h : Tk q k t n a u x w) (m : Nat) : Tk q k t n a u x (w.drewN m) := h
theorem Tk.all {q : Nat} {k n a : Int} {t : ByteArray} {u x : Bool} {w : World} (h : Tk q k t n a u x w) (k' n' a' : Int) (t' : ByteArray) (u' x' : Bool) :
    Tk q k' t' n' a' u' x' ((((((w.setCell ⟨q, 0, none⟩ (.int .i64 k')).setCell ⟨q, 1, none⟩ (.string t')).setCell ⟨q, 2, none⟩ (.int .i64 n')).setCell ⟨q, 3, none⟩ (.int .i64 a')).setCell ⟨q, 4, none⟩ (.bool u')).setCell ⟨q, 5, none⟩ (.bool x')) :=
  (((((h.s0 k').s1 t').s2 n').s3 a').s4 u').s5 x'
theorem Tk.stay_all (q : Nat) (w : World) (k' n' a' : Int) (t' : ByteArray) (u' x' : Bool) :
    Stay w ((((((w.setCell ⟨q, 0, none⟩ (.int .i64 k')).setCell ⟨q, 1, none⟩ (.string t')).setCell ⟨q, 2, none⟩ (.int .i64 n')).setCell ⟨q, 3, none⟩ (.int .i64 a')).setCell ⟨q, 4, none⟩ (.bool u')).setCell ⟨q, 5, none⟩ (.bool x')) (fun k => k = q) :=
  ((((((Stay.refl w (fun k => k = q)).setCell _ _ (fun _ => rfl)).setCell _ _ (fun _ => rfl)).setCell _ _ (fun _ => rfl)).setCell _ _ (fun _ => rfl)).setCell _ _ (fun _ => rfl)).setCell _ _ (fun _ => rfl)

theorem results_cell_row_tmp {P : Program} {fn : Func} {p t : Tmp} {ty : TypeId} (h : fn.results = #[.cell p ty, .tmp t]) (tmps : Array Value) (w : World) (g : Nat) (tt : TypeId) (cs : Array Value) (fr : Nat × Nat) (d : TypeDesc)
    (hp : tmps.getD p undef = .pointer (some ⟨g, 0, none⟩)) (hg : w.heap[g]? = some (.cells cs tt fr))
    (hu : P.underlying ty = some d) (hd : (match d with | .struct _ | .array _ _ => true | _ => false) = true) (hi : (P.info? ty).map (·.size) = some cs.size) :
    (results fn tmps).run P w = .ok (.tuple #[.agg cs, tmps.getD t undef]) w := by
  have hp' : tmps[p]?.getD undef = .pointer (some ⟨g, 0, none⟩) := by simpa using hp
  simp [results, h, hp', asAddr, run_loadVar_row w g tt ty cs fr d hg hu hd hi]

/-- A token, as a struct value. -/
def tokV (t : Tok) : Value := .agg #[.int .i64 t.kind, .string t.text, .int .i64 t.int, .int .i64 t.pos, .bool t.quoted, .bool t.apart]
def TokPost (b p : Nat) (s : ByteArray) (v : Value) (w : World) (r : Except (Int × Int) (Tok × Nat)) (e : Ending) (w' : World) : Prop :=
  match r with
  | .ok (t, n) => e = .returned (.tuple #[tokV t, .nilIface]) ∧ Scan b s (p + n) v w' ∧ Stay w w' (fun k => k = b)
  | .error (c, a) => ∃ ev t, e = .returned (.tuple #[tokV t, ev]) ∧ Fault w.heap.size ev c a w' ∧ Stay w w' (fun k => k = b)

theorem codeS_le (r : List UInt8) (p : Int) (x : Int) (n : Nat) (h : codeS r p = .ok (x, n)) : n ≤ r.length := by
  unfold codeS at h
  simp only at h
  have hl : (r.drop 2).length = r.length - 2 := List.length_drop
  generalize r.drop 2 = q at h hl
  split at h
  · exact absurd h (by simp)
  · rename_i h1
    split at h
    · unfold escS at h
      split at h
      · exact absurd h (by simp)
      · exact absurd h (by simp)
      · rename_i hq
        split at hq
        · exact absurd hq (by simp)
        · injection h with h; injection h with _ h; omega
    · split at h
      · exact absurd h (by simp)
      · split at h
        · rename_i h4
          injection h with h; injection h with _ h
          have : ¬ q.length ≤ 1 := fun hh => h1 (.inr ⟨h4, hh⟩)
          omega
        · injection h with h; injection h with _ h
          have : ¬ q.length = 0 := fun hh => h1 (.inl hh)
          omega
theorem numS_le (r : List UInt8) (p : Int) (x : Int) (n : Nat) (h : numS r p = .ok (x, n)) : n ≤ r.length := by
  unfold numS at h
  split at h
  · exact codeS_le r p x n h
  · simp only at h
    split at h
    · exact absurd h (by simp)
    · injection h with h; injection h with _ h
      have := runS_le digitB r
      omega
theorem symS_le (r : List UInt8) : symS r ≤ r.length := by
  induction r with
  | nil => simp [symS]
  | cons c r ih =>
    rw [symS]
    split
    · simpa using ih
    · simp

theorem punct_eq (c : UInt8) : decide (0 ≤ Lib.indexByte punctL c) = punctB c := indexByte_contains _ _
theorem peek1_eq (b p : Nat) (s : ByteArray) (v : Value) (x : Int) (w : World) (h : Scan b s p v w) (hm : s.size ≤ 16384) (hp : p ≤ s.size) (hx : pk (rest s p) 1 = x) :
    Calls Tryz.prog 108 #[.pointer (some ⟨b, 0, none⟩), .int .i64 1] w fun e w' => e = .returned (.int .u8 x) ∧ Quiet w w' := hx ▸ peek1 b p s v w h hm hp
theorem blank_yes (x : Int) (w : World) (h : blankB x = true) : Calls Tryz.prog 109 #[.int .u8 x] w fun e w' => e = .returned (.bool true) ∧ Quiet w w' := (blank_any x w).mono (by rintro e w' ⟨rfl, rfl⟩; exact ⟨by rw [h], Quiet.refl _⟩)
theorem blank_no (x : Int) (w : World) (h : blankB x = false) : Calls Tryz.prog 109 #[.int .u8 x] w fun e w' => e = .returned (.bool false) ∧ Quiet w w' := (blank_any x w).mono (by rintro e w' ⟨rfl, rfl⟩; exact ⟨by rw [h], Quiet.refl _⟩)

set_option maxHeartbeats 4000000 in
set_option maxRecDepth 100000 in
theorem token_any (b p : Nat) (s : ByteArray) (v : Value) (w : World) (h : Scan b s p v w) (hm : s.size ≤ 16384) (hp : p < s.size) (hG : RangeVar w) (hbg : 9 ≤ b) :
    Calls Tryz.prog 78 #[.pointer (some ⟨b, 0, none⟩)] w (TokPost b p s v w (tokS (rest s p) p)) := by
  have c0 := h.c0
  have c1 := h.c1
  have hb := h.lt
  have hR : tokS (rest s p) p = _ := rfl
  conv at hR => rhs; unfold tokS
  generalize tokS (rest s p) p = R at hR ⊢
  simp only at hR
  have hx0 : pk (rest s p) 0 = n8 ((rest s p).getD 0 0) := rfl
  generalize (rest s p).getD 0 0 = y0 at hx0 hR
  have Hx0 := hide hx0
  have HR := hide hR
  have H := hide h
  have HG := hide hG
  clear hR h hG hx0
  go_enter Tryz.func78, Tryz.ntmps78
  go_wp2_with fail
  have hk0 : ∀ o, Scan b s p v (w.alloc o) := fun o => H.out.stay (S := fun _ => False) ((Stay.refl _ _).alloc _) (fun e => e)
  refine (peek0 b p s v _ (hk0 _) hm (by omega)).mono ?_
  rintro e w1 ⟨rfl, hq1⟩
  have hk1 := (hk0 _).stay (hq1.stay (fun _ => False)) (fun e => e)
  have hst1 : Stay w w1 (fun _ => False) := ((Stay.refl _ _).alloc _).trans (hq1.stay (fun _ => False)) (fun _ _ h => h)
  have htk1 : Tk w.heap.size 0 (bs []) 0 0 false false w1 := ((hq1.stay (fun _ => False)).block w.heap.size (by simp) (fun e => e)).trans (heap_alloc_new _ _)
  have d0 := hk1.c0
  have d1 := hk1.c1
  have u0 : w1.cell? ⟨w.heap.size, 0, none⟩ = _ := cell_of htk1 0 _ rfl
  have u1 : w1.cell? ⟨w.heap.size, 1, none⟩ = _ := cell_of htk1 1 _ rfl
  have u2 : w1.cell? ⟨w.heap.size, 2, none⟩ = _ := cell_of htk1 2 _ rfl
  have u3 : w1.cell? ⟨w.heap.size, 3, none⟩ = _ := cell_of htk1 3 _ rfl
  have u4 : w1.cell? ⟨w.heap.size, 4, none⟩ = _ := cell_of htk1 4 _ rfl
  have u5 : w1.cell? ⟨w.heap.size, 5, none⟩ = _ := cell_of htk1 5 _ rfl
  have t3 : ∀ j : Nat, w1.frozen? ⟨w.heap.size, j, none⟩ = false := free_of htk1
  have Hk1 := hide hk1
  have Hst1 := hide hst1
  have Htk1 := hide htk1
  clear hk1 hst1 htk1 hk0 hq1 c0 c1
  rw [Hx0.out]
  go_wp2_with fail
  refine (small_any _ _).mono ?_
  rintro e w2 ⟨rfl, hw⟩
  have hst2 : Stay w w2 (fun _ => False) := by
    have hn : w.heap.size < w.heap.size → False := Nat.lt_irrefl _
    rw [← hw]
    exact Hst1.out.trans (Tk.stay_all w.heap.size _ 1 0 p (bs []) false false) (fun _ h e => hn (e ▸ h))
  have htk2 : Tk w.heap.size 1 (bs []) 0 p false false w2 := by
    rw [← hw]
    exact Htk1.out.all 1 0 p (bs []) false false
  have hk2 := H.out.stay hst2 (fun e => e)
  have Hst2 := hide hst2
  have Htk2 := hide htk2
  have Hk2 := hide hk2
  have hsz2 : w.heap.size < w2.heap.size := lt_of htk2
  clear hw d0 d1 u0 u1 u2 u3 u4 u5 t3 Hk1 Hst1 Htk1 htk2 hk2 hst2
  have d0 := Hk2.out.c0
  have d1 := Hk2.out.c1
  have f1 := Hk2.out.fr 1
  have u0 : w2.cell? ⟨w.heap.size, 0, none⟩ = _ := cell_of Htk2.out 0 _ rfl
  have u1 : w2.cell? ⟨w.heap.size, 1, none⟩ = _ := cell_of Htk2.out 1 _ rfl
  have u2 : w2.cell? ⟨w.heap.size, 2, none⟩ = _ := cell_of Htk2.out 2 _ rfl
  have u3 : w2.cell? ⟨w.heap.size, 3, none⟩ = _ := cell_of Htk2.out 3 _ rfl
  have u4 : w2.cell? ⟨w.heap.size, 4, none⟩ = _ := cell_of Htk2.out 4 _ rfl
  have u5 : w2.cell? ⟨w.heap.size, 5, none⟩ = _ := cell_of Htk2.out 5 _ rfl
  have t3 : ∀ j : Nat, w2.frozen? ⟨w.heap.size, j, none⟩ = false := free_of Htk2.out
  by_cases hsm : smallB (n8 y0) = true
  · rw [if_pos hsm] at HR
    rw [hsm]
    go_wp2_with fail
    refine (while_letter b p s v _ Hk2.out hm (by omega)).mono ?_
    rintro e w3 ⟨rfl, hk3, hs3⟩
    have hst3 : Stay w w3 (fun k => k = b) := (Hst2.out.mono (fun _ _ e => e.elim)).trans hs3 (fun _ _ h => h)
    have htk3 := Htk2.out.stay hs3 (by omega)
    have hle := runS_le letterB (rest s p)
    rw [rest_length] at hle
    have hle2 : p + runS letterB (rest s p) ≤ s.size := by omega
    clear d0 d1 f1 u0 u1 u2 u3 u4 u5 t3 hs3 hle
    have hsl := slice_at s p (p + runS letterB (rest s p)) (Nat.le_add_right _ _) hle2
    rw [Nat.add_sub_cancel_left] at hsl
    generalize bs ((rest s p).take (runS letterB (rest s p))) = tx at hsl HR
    have Hfin := hide hk3
    generalize hqn : p + runS letterB (rest s p) = q at hk3 hsl
    have Hqn := hide hqn
    have d0 := hk3.c0
    have d1 := hk3.c1
    have u0 : w3.cell? ⟨w.heap.size, 0, none⟩ = _ := cell_of htk3 0 _ rfl
    have u1 : w3.cell? ⟨w.heap.size, 1, none⟩ = _ := cell_of htk3 1 _ rfl
    have u2 : w3.cell? ⟨w.heap.size, 2, none⟩ = _ := cell_of htk3 2 _ rfl
    have u3 : w3.cell? ⟨w.heap.size, 3, none⟩ = _ := cell_of htk3 3 _ rfl
    have u4 : w3.cell? ⟨w.heap.size, 4, none⟩ = _ := cell_of htk3 4 _ rfl
    have u5 : w3.cell? ⟨w.heap.size, 5, none⟩ = _ := cell_of htk3 5 _ rfl
    have t3 : ∀ j : Nat, w3.frozen? ⟨w.heap.size, j, none⟩ = false := free_of htk3
    have hl3 := hk3.lt
    have hk3 := Hfin.out
    have Hst3 := hide hst3
    have Htk3 := hide htk3
    clear hk3 hst3 htk3 hqn
    go_wp2_with fail
    go_region
    all_goals go_wp2_with fail
    obtain ⟨W0, hW0⟩ : ∃ W0, W0 = w3 := ⟨_, rfl⟩
    have hkW : Scan b s (p + runS letterB (rest s p)) v W0 := by rw [hW0]; exact Hfin.out
    have htkW : Tk w.heap.size 1 (bs []) 0 p false false W0 := by rw [hW0]; exact Htk3.out
    have hstW : Stay w W0 (fun k => k = b) := by rw [hW0]; exact Hst3.out
    obtain ⟨W, hW⟩ : ∃ W, W = (((((((W0.setCell ⟨w.heap.size, 1, none⟩ (.string tx)).setCell ⟨w.heap.size, 0, none⟩ (.int .i64 1)).setCell ⟨w.heap.size, 1, none⟩ (.string tx)).setCell ⟨w.heap.size, 2, none⟩ (.int .i64 0)).setCell ⟨w.heap.size, 3, none⟩ (.int .i64 p)).setCell ⟨w.heap.size, 4, none⟩ (.bool false)).setCell ⟨w.heap.size, 5, none⟩ (.bool false)).drew := ⟨_, rfl⟩
    have hW2 := hW
    rw [hW0] at hW2
    rw [← hW2]
    clear hW2
    have hblk : Tk w.heap.size 1 tx 0 p false false W := by
      rw [hW]
      exact ((htkW.s1 tx).all 1 0 p tx false false).drew
    have hm3 : Stay W0 W (fun k => k = w.heap.size) := by
      rw [hW]
      exact ((Stay.set1 W0 w.heap.size 1 (.string tx)).trans (Tk.stay_all w.heap.size _ 1 0 p tx false false) (fun _ _ h => h)).drew
    have hfin : Stay w W (fun k => k = b) := hstW.trans hm3 (fun _ h e => by omega)
    refine bodyPost_ret (results_cell_row_tmp (p := 2) (t := 3) (ty := 139) rfl _ _ w.heap.size 139 _ (0, 0) _ rfl hblk Tryz.underlying139 rfl (by kernel_rfl)) rfl ?_
    rw [HR.out]
    exact ⟨rfl, hkW.stay hm3 (by omega), hfin⟩
  rw [if_neg hsm] at HR
  rw [Bool.eq_false_iff.2 hsm]
  go_wp2_with fail
  refine (capital_any _ _).mono ?_
  rintro e w2' ⟨rfl, hw⟩
  subst w2'
  by_cases hcp : capB (n8 y0) = true
  · rw [if_pos hcp] at HR
    rw [hcp]
    have hsk : Stay w2 (w2.setCell ⟨w.heap.size, 0, none⟩ (.int .i64 2)) (fun k => k = w.heap.size) := (Stay.refl _ _).setCell _ _ (fun _ => rfl)
    have hkk := Hk2.out.stay hsk (by omega)
    have hstk : Stay w (w2.setCell ⟨w.heap.size, 0, none⟩ (.int .i64 2)) (fun k => k = b) := (Hst2.out.mono (fun _ _ e => e.elim)).trans hsk (fun _ h e => by omega)
    have htkk : Tk w.heap.size 2 (bs []) 0 p false false (w2.setCell ⟨w.heap.size, 0, none⟩ (.int .i64 2)) := set_of Htk2.out 0 _
    clear hsk
    go_wp2_with fail
    refine (while_letter b p s v _ hkk hm (by omega)).mono ?_
    rintro e w3 ⟨rfl, hk3, hs3⟩
    have hst3 : Stay w w3 (fun k => k = b) := hstk.trans hs3 (fun _ _ h => h)
    have htk3 := htkk.stay hs3 (by omega)
    have hle := runS_le letterB (rest s p)
    rw [rest_length] at hle
    have hle2 : p + runS letterB (rest s p) ≤ s.size := by omega
    clear d0 d1 f1 u0 u1 u2 u3 u4 u5 t3 hs3 hle
    have hsl := slice_at s p (p + runS letterB (rest s p)) (Nat.le_add_right _ _) hle2
    rw [Nat.add_sub_cancel_left] at hsl
    generalize bs ((rest s p).take (runS letterB (rest s p))) = tx at hsl HR
    have Hfin := hide hk3
    generalize hqn : p + runS letterB (rest s p) = q at hk3 hsl
    have Hqn := hide hqn
    have d0 := hk3.c0
    have d1 := hk3.c1
    have u0 : w3.cell? ⟨w.heap.size, 0, none⟩ = _ := cell_of htk3 0 _ rfl
    have u1 : w3.cell? ⟨w.heap.size, 1, none⟩ = _ := cell_of htk3 1 _ rfl
    have u2 : w3.cell? ⟨w.heap.size, 2, none⟩ = _ := cell_of htk3 2 _ rfl
    have u3 : w3.cell? ⟨w.heap.size, 3, none⟩ = _ := cell_of htk3 3 _ rfl
    have u4 : w3.cell? ⟨w.heap.size, 4, none⟩ = _ := cell_of htk3 4 _ rfl
    have u5 : w3.cell? ⟨w.heap.size, 5, none⟩ = _ := cell_of htk3 5 _ rfl
    have t3 : ∀ j : Nat, w3.frozen? ⟨w.heap.size, j, none⟩ = false := free_of htk3
    have hl3 := hk3.lt
    have hk3 := Hfin.out
    have Hst3 := hide hst3
    have Htk3 := hide htk3
    clear hk3 hst3 htk3 hqn
    go_wp2_with fail
    go_region
    all_goals go_wp2_with fail
    obtain ⟨W0, hW0⟩ : ∃ W0, W0 = w3 := ⟨_, rfl⟩
    have hkW : Scan b s (p + runS letterB (rest s p)) v W0 := by rw [hW0]; exact Hfin.out
    have htkW : Tk w.heap.size 2 (bs []) 0 p false false W0 := by rw [hW0]; exact Htk3.out
    have hstW : Stay w W0 (fun k => k = b) := by rw [hW0]; exact Hst3.out
    obtain ⟨W, hW⟩ : ∃ W, W = (((((((W0.setCell ⟨w.heap.size, 1, none⟩ (.string tx)).setCell ⟨w.heap.size, 0, none⟩ (.int .i64 2)).setCell ⟨w.heap.size, 1, none⟩ (.string tx)).setCell ⟨w.heap.size, 2, none⟩ (.int .i64 0)).setCell ⟨w.heap.size, 3, none⟩ (.int .i64 p)).setCell ⟨w.heap.size, 4, none⟩ (.bool false)).setCell ⟨w.heap.size, 5, none⟩ (.bool false)).drew := ⟨_, rfl⟩
    have hW2 := hW
    rw [hW0] at hW2
    rw [← hW2]
    clear hW2
    have hblk : Tk w.heap.size 2 tx 0 p false false W := by
      rw [hW]
      exact ((htkW.s1 tx).all 2 0 p tx false false).drew
    have hm3 : Stay W0 W (fun k => k = w.heap.size) := by
      rw [hW]
      exact ((Stay.set1 W0 w.heap.size 1 (.string tx)).trans (Tk.stay_all w.heap.size _ 2 0 p tx false false) (fun _ _ h => h)).drew
    have hfin : Stay w W (fun k => k = b) := hstW.trans hm3 (fun _ h e => by omega)
    refine bodyPost_ret (results_cell_row_tmp (p := 2) (t := 3) (ty := 139) rfl _ _ w.heap.size 139 _ (0, 0) _ rfl hblk Tryz.underlying139 rfl (by kernel_rfl)) rfl ?_
    rw [HR.out]
    exact ⟨rfl, hkW.stay hm3 (by omega), hfin⟩
  rw [if_neg hcp] at HR
  rw [Bool.eq_false_iff.2 hcp]
  go_wp2_with fail
  refine (digit_any _ _).mono ?_
  rintro e w2' ⟨rfl, hw⟩
  subst w2'
  by_cases hdg : digitB (n8 y0) = true
  · rw [if_pos hdg] at HR
    rw [hdg]
    have hsk : Stay w2 (w2.setCell ⟨w.heap.size, 0, none⟩ (.int .i64 3)) (fun k => k = w.heap.size) := (Stay.refl _ _).setCell _ _ (fun _ => rfl)
    have hkk := Hk2.out.stay hsk (by omega)
    have hstk : Stay w (w2.setCell ⟨w.heap.size, 0, none⟩ (.int .i64 3)) (fun k => k = b) := (Hst2.out.mono (fun _ _ e => e.elim)).trans hsk (fun _ h e => by omega)
    have htkk : Tk w.heap.size 3 (bs []) 0 p false false (w2.setCell ⟨w.heap.size, 0, none⟩ (.int .i64 3)) := set_of Htk2.out 0 _
    clear hsk
    have hGk : RangeVar (w2.setCell ⟨w.heap.size, 0, none⟩ (.int .i64 3)) := by
      obtain ⟨a, ha⟩ := HG.out
      exact ⟨a, hstk.cell ha (by show ¬ 2 = b; omega)⟩
    have hszk : w.heap.size < (w2.setCell ⟨w.heap.size, 0, none⟩ (.int .i64 3)).heap.size := lt_of htkk
    go_wp2_with fail
    refine (number_any b p s v _ hkk hm hp (by rw [Hx0.out]; exact hdg) hGk hbg).mono ?_
    intro e w3 h3
    generalize hRn : numS (rest s p) p = Rn at HR h3
    have HRn := hide hRn
    clear hRn
    clear d0 d1 f1 u0 u1 u2 u3 u4 u5 t3
    cases Rn with
    | ok r =>
      obtain ⟨x, n⟩ := r
      obtain ⟨rfl, hk3, hs3⟩ := h3
      simp only [Except.map] at HR
      have hst3 : Stay w w3 (fun k => k = b) := hstk.trans hs3 (fun _ _ h => h)
      have htk3 := htkk.stay hs3 (by omega)
      clear hs3 hkk hstk htkk hGk
      have hle2 : p + n ≤ s.size := by
        have := numS_le _ _ _ _ HRn.out
        rw [rest_length] at this
        omega
      have hsl := slice_at s p (p + n) (Nat.le_add_right _ _) hle2
      rw [Nat.add_sub_cancel_left] at hsl
      generalize bs ((rest s p).take (n)) = tx at hsl HR
      have Hfin := hide hk3
      generalize hqn : p + n = q at hk3 hsl
      have Hqn := hide hqn
      have d0 := hk3.c0
      have d1 := hk3.c1
      have u0 : w3.cell? ⟨w.heap.size, 0, none⟩ = _ := cell_of htk3 0 _ rfl
      have u1 : w3.cell? ⟨w.heap.size, 1, none⟩ = _ := cell_of htk3 1 _ rfl
      have u2 : w3.cell? ⟨w.heap.size, 2, none⟩ = _ := cell_of htk3 2 _ rfl
      have u3 : w3.cell? ⟨w.heap.size, 3, none⟩ = _ := cell_of htk3 3 _ rfl
      have u4 : w3.cell? ⟨w.heap.size, 4, none⟩ = _ := cell_of htk3 4 _ rfl
      have u5 : w3.cell? ⟨w.heap.size, 5, none⟩ = _ := cell_of htk3 5 _ rfl
      have t3 : ∀ j : Nat, w3.frozen? ⟨w.heap.size, j, none⟩ = false := free_of htk3
      have hl3 := hk3.lt
      have hk3 := Hfin.out
      have Hst3 := hide hst3
      have Htk3 := hide htk3
      clear hk3 hst3 htk3 hqn
      go_wp2_with fail
      go_region
      all_goals go_wp2_with fail
      obtain ⟨W0, hW0⟩ : ∃ W0, W0 = w3.setCell ⟨w.heap.size, 2, none⟩ (.int .i64 x) := ⟨_, rfl⟩
      have hkW : Scan b s (p + n) v W0 := by rw [hW0]; exact Hfin.out.stay (Stay.set1 w3 w.heap.size 2 (.int .i64 x)) (by omega)
      have htkW : Tk w.heap.size 3 (bs []) x p false false W0 := by rw [hW0]; exact Htk3.out.s2 x
      have hstW : Stay w W0 (fun k => k = b) := by rw [hW0]; exact Hst3.out.setCell _ _ (fun h => absurd h (Nat.lt_irrefl _))
      obtain ⟨W, hW⟩ : ∃ W, W = (((((((W0.setCell ⟨w.heap.size, 1, none⟩ (.string tx)).setCell ⟨w.heap.size, 0, none⟩ (.int .i64 3)).setCell ⟨w.heap.size, 1, none⟩ (.string tx)).setCell ⟨w.heap.size, 2, none⟩ (.int .i64 x)).setCell ⟨w.heap.size, 3, none⟩ (.int .i64 p)).setCell ⟨w.heap.size, 4, none⟩ (.bool false)).setCell ⟨w.heap.size, 5, none⟩ (.bool false)).drew := ⟨_, rfl⟩
      have hW2 := hW
      rw [hW0] at hW2
      rw [← hW2]
      clear hW2
      have hblk : Tk w.heap.size 3 tx x p false false W := by
        rw [hW]
        exact ((htkW.s1 tx).all 3 x p tx false false).drew
      have hm3 : Stay W0 W (fun k => k = w.heap.size) := by
        rw [hW]
        exact ((Stay.set1 W0 w.heap.size 1 (.string tx)).trans (Tk.stay_all w.heap.size _ 3 x p tx false false) (fun _ _ h => h)).drew
      have hfin : Stay w W (fun k => k = b) := hstW.trans hm3 (fun _ h e => by omega)
      refine bodyPost_ret (results_cell_row_tmp (p := 2) (t := 3) (ty := 139) rfl _ _ w.heap.size 139 _ (0, 0) _ rfl hblk Tryz.underlying139 rfl (by kernel_rfl)) rfl ?_
      rw [HR.out]
      exact ⟨rfl, hkW.stay hm3 (by omega), hfin⟩
    | error r =>
      obtain ⟨c, a⟩ := r
      obtain ⟨ev, x, q', rfl, hf, hk3, hpq, hqs, hs3⟩ := h3
      obtain ⟨n, rfl⟩ : ∃ n, q' = p + n := ⟨q' - p, by omega⟩
      simp only [Except.map] at HR
      have hst3 : Stay w w3 (fun k => k = b) := hstk.trans hs3 (fun _ _ h => h)
      have htk3 := htkk.stay hs3 (by omega)
      have Hf := hide hf
      have hle2 := hqs
      clear hs3 hkk hstk htkk hGk hf hpq hqs
      have hsl := slice_at s p (p + n) (Nat.le_add_right _ _) hle2
      rw [Nat.add_sub_cancel_left] at hsl
      generalize bs ((rest s p).take (n)) = tx at hsl
      have Hfin := hide hk3
      generalize hqn : p + n = q at hk3 hsl
      have Hqn := hide hqn
      have d0 := hk3.c0
      have d1 := hk3.c1
      have u0 : w3.cell? ⟨w.heap.size, 0, none⟩ = _ := cell_of htk3 0 _ rfl
      have u1 : w3.cell? ⟨w.heap.size, 1, none⟩ = _ := cell_of htk3 1 _ rfl
      have u2 : w3.cell? ⟨w.heap.size, 2, none⟩ = _ := cell_of htk3 2 _ rfl
      have u3 : w3.cell? ⟨w.heap.size, 3, none⟩ = _ := cell_of htk3 3 _ rfl
      have u4 : w3.cell? ⟨w.heap.size, 4, none⟩ = _ := cell_of htk3 4 _ rfl
      have u5 : w3.cell? ⟨w.heap.size, 5, none⟩ = _ := cell_of htk3 5 _ rfl
      have t3 : ∀ j : Nat, w3.frozen? ⟨w.heap.size, j, none⟩ = false := free_of htk3
      have hl3 := hk3.lt
      have hk3 := Hfin.out
      have Hst3 := hide hst3
      have Htk3 := hide htk3
      clear hk3 hst3 htk3 hqn
      go_wp2_with fail
      go_region
      all_goals go_wp2_with fail
      obtain ⟨W0, hW0⟩ : ∃ W0, W0 = w3.setCell ⟨w.heap.size, 2, none⟩ (.int .i64 x) := ⟨_, rfl⟩
      have hkW : Scan b s (p + n) v W0 := by rw [hW0]; exact Hfin.out.stay (Stay.set1 w3 w.heap.size 2 (.int .i64 x)) (by omega)
      have htkW : Tk w.heap.size 3 (bs []) x p false false W0 := by rw [hW0]; exact Htk3.out.s2 x
      have hstW : Stay w W0 (fun k => k = b) := by rw [hW0]; exact Hst3.out.setCell _ _ (fun h => absurd h (Nat.lt_irrefl _))
      obtain ⟨W, hW⟩ : ∃ W, W = (((((((W0.setCell ⟨w.heap.size, 1, none⟩ (.string tx)).setCell ⟨w.heap.size, 0, none⟩ (.int .i64 3)).setCell ⟨w.heap.size, 1, none⟩ (.string tx)).setCell ⟨w.heap.size, 2, none⟩ (.int .i64 x)).setCell ⟨w.heap.size, 3, none⟩ (.int .i64 p)).setCell ⟨w.heap.size, 4, none⟩ (.bool false)).setCell ⟨w.heap.size, 5, none⟩ (.bool false)).drew := ⟨_, rfl⟩
      have hW2 := hW
      rw [hW0] at hW2
      rw [← hW2]
      clear hW2
      have hblk : Tk w.heap.size 3 tx x p false false W := by
        rw [hW]
        exact ((htkW.s1 tx).all 3 x p tx false false).drew
      have hm3 : Stay W0 W (fun k => k = w.heap.size) := by
        rw [hW]
        exact ((Stay.set1 W0 w.heap.size 1 (.string tx)).trans (Tk.stay_all w.heap.size _ 3 x p tx false false) (fun _ _ h => h)).drew
      have hfin : Stay w W (fun k => k = b) := hstW.trans hm3 (fun _ h e => by omega)
      refine bodyPost_ret (results_cell_row_tmp (p := 2) (t := 3) (ty := 139) rfl _ _ w.heap.size 139 _ (0, 0) _ rfl hblk Tryz.underlying139 rfl (by kernel_rfl)) rfl ?_
      rw [HR.out]
      exact ⟨_, ⟨3, tx, x, p, false, false⟩, rfl, (Hf.out.stay (S := fun k => k = w.heap.size) (by have hx := Stay.set1 w3 w.heap.size 2 (.int .i64 x); rw [← hW0] at hx; exact hx.trans hm3 (fun _ _ h => h)) (fun k h => by omega)).mono (by omega), hfin⟩
  rw [if_neg hdg] at HR
  rw [Bool.eq_false_iff.2 hdg]
  go_wp2_with fail
  refine (Tryz.strings_IndexByte _ _ _).mono ?_
  rintro e w2' ⟨rfl, hw⟩
  subst w2'
  rw [toUInt8_n8]
  rw [show Lib.indexByte (ByteArray.mk #[40, 41, 91, 93, 123, 125, 44, 124]).data.toList y0 = Lib.indexByte punctL y0 from rfl]
  have hpe := punct_eq y0
  generalize Lib.indexByte punctL y0 = z at hpe ⊢
  have hle2 : p + 1 ≤ s.size := hp
  by_cases hpu : punctB y0 = true
  · rw [if_pos hpu] at HR
    rw [hpu] at hpe
    have hz : 0 ≤ z := of_decide_eq_true hpe
    clear hpe
    have hsl := slice_at s p (p + 1) (Nat.le_add_right _ _) hle2
    rw [Nat.add_sub_cancel_left] at hsl
    generalize bs ((rest s p).take (1)) = tx at hsl HR
    have hq1 : ((p + 1 : Nat) : Int) = (p : Int) + 1 := by omega
    rw [hq1] at hsl
    clear hq1
    go_wp2_with fail
    go_region
    all_goals go_wp2_with fail
    obtain ⟨W0, hW0⟩ : ∃ W0, W0 = (w2.setCell ⟨w.heap.size, 0, none⟩ (.int .i64 4)).setCell ⟨b, 1, none⟩ (.int .i64 (↑p + 1)) := ⟨_, rfl⟩
    have hkW : Scan b s (p + 1) v W0 := by rw [hW0]; exact ((Hk2.out.stay (Stay.set1 w2 w.heap.size 0 (.int .i64 4)) (by omega)).set (p + 1) _ (by go_num))
    have htkW : Tk w.heap.size 4 (bs []) 0 p false false W0 := by rw [hW0]; exact ((Htk2.out.s0 4).stay (Stay.set1 _ b 1 _) (by omega))
    have hstW : Stay w W0 (fun k => k = b) := by rw [hW0]; exact (((Hst2.out.mono (S' := fun k => k = b) (fun _ _ e => e.elim)).setCell _ _ (fun h => absurd h (Nat.lt_irrefl _))).setCell _ _ (fun _ => rfl))
    obtain ⟨W, hW⟩ : ∃ W, W = (((((((W0.setCell ⟨w.heap.size, 1, none⟩ (.string tx)).setCell ⟨w.heap.size, 0, none⟩ (.int .i64 4)).setCell ⟨w.heap.size, 1, none⟩ (.string tx)).setCell ⟨w.heap.size, 2, none⟩ (.int .i64 0)).setCell ⟨w.heap.size, 3, none⟩ (.int .i64 p)).setCell ⟨w.heap.size, 4, none⟩ (.bool false)).setCell ⟨w.heap.size, 5, none⟩ (.bool false)).drew := ⟨_, rfl⟩
    have hW2 := hW
    rw [hW0] at hW2
    rw [← hW2]
    clear hW2
    have hblk : Tk w.heap.size 4 tx 0 p false false W := by
      rw [hW]
      exact ((htkW.s1 tx).all 4 0 p tx false false).drew
    have hm3 : Stay W0 W (fun k => k = w.heap.size) := by
      rw [hW]
      exact ((Stay.set1 W0 w.heap.size 1 (.string tx)).trans (Tk.stay_all w.heap.size _ 4 0 p tx false false) (fun _ _ h => h)).drew
    have hfin : Stay w W (fun k => k = b) := hstW.trans hm3 (fun _ h e => by omega)
    refine bodyPost_ret (results_cell_row_tmp (p := 2) (t := 3) (ty := 139) rfl _ _ w.heap.size 139 _ (0, 0) _ rfl hblk Tryz.underlying139 rfl (by kernel_rfl)) rfl ?_
    rw [HR.out]
    exact ⟨rfl, hkW.stay hm3 (by omega), hfin⟩
  rw [if_neg hpu] at HR
  rw [Bool.eq_false_iff.2 hpu] at hpe
  have hz : z < 0 := Int.not_le.1 (of_decide_eq_false hpe)
  clear hpe
  by_cases h33 : n8 y0 = 33
  · rw [if_pos (.inl h33)] at HR
    rw [h33]
    have hsl := slice_at s p (p + 1) (Nat.le_add_right _ _) hle2
    rw [Nat.add_sub_cancel_left] at hsl
    generalize bs ((rest s p).take (1)) = tx at hsl HR
    have hq1 : ((p + 1 : Nat) : Int) = (p : Int) + 1 := by omega
    rw [hq1] at hsl
    clear hq1
    go_wp2_with fail
    go_region
    all_goals go_wp2_with fail
    obtain ⟨W0, hW0⟩ : ∃ W0, W0 = w2.setCell ⟨b, 1, none⟩ (.int .i64 (↑p + 1)) := ⟨_, rfl⟩
    have hkW : Scan b s (p + 1) v W0 := by rw [hW0]; exact (Hk2.out.set (p + 1) _ (by go_num))
    have htkW : Tk w.heap.size 1 (bs []) 0 p false false W0 := by rw [hW0]; exact (Htk2.out.stay (Stay.set1 _ b 1 _) (by omega))
    have hstW : Stay w W0 (fun k => k = b) := by rw [hW0]; exact ((Hst2.out.mono (S' := fun k => k = b) (fun _ _ e => e.elim)).setCell _ _ (fun _ => rfl))
    obtain ⟨W, hW⟩ : ∃ W, W = (((((((W0.setCell ⟨w.heap.size, 1, none⟩ (.string tx)).setCell ⟨w.heap.size, 0, none⟩ (.int .i64 1)).setCell ⟨w.heap.size, 1, none⟩ (.string tx)).setCell ⟨w.heap.size, 2, none⟩ (.int .i64 0)).setCell ⟨w.heap.size, 3, none⟩ (.int .i64 p)).setCell ⟨w.heap.size, 4, none⟩ (.bool false)).setCell ⟨w.heap.size, 5, none⟩ (.bool false)).drew := ⟨_, rfl⟩
    have hW2 := hW
    rw [hW0] at hW2
    rw [← hW2]
    clear hW2
    have hblk : Tk w.heap.size 1 tx 0 p false false W := by
      rw [hW]
      exact ((htkW.s1 tx).all 1 0 p tx false false).drew
    have hm3 : Stay W0 W (fun k => k = w.heap.size) := by
      rw [hW]
      exact ((Stay.set1 W0 w.heap.size 1 (.string tx)).trans (Tk.stay_all w.heap.size _ 1 0 p tx false false) (fun _ _ h => h)).drew
    have hfin : Stay w W (fun k => k = b) := hstW.trans hm3 (fun _ h e => by omega)
    refine bodyPost_ret (results_cell_row_tmp (p := 2) (t := 3) (ty := 139) rfl _ _ w.heap.size 139 _ (0, 0) _ rfl hblk Tryz.underlying139 rfl (by kernel_rfl)) rfl ?_
    rw [HR.out]
    exact ⟨rfl, hkW.stay hm3 (by omega), hfin⟩
  by_cases h59 : n8 y0 = 59
  · rw [if_pos (.inr h59)] at HR
    rw [h59]
    have hsl := slice_at s p (p + 1) (Nat.le_add_right _ _) hle2
    rw [Nat.add_sub_cancel_left] at hsl
    generalize bs ((rest s p).take (1)) = tx at hsl HR
    have hq1 : ((p + 1 : Nat) : Int) = (p : Int) + 1 := by omega
    rw [hq1] at hsl
    clear hq1
    go_wp2_with fail
    go_region
    all_goals go_wp2_with fail
    obtain ⟨W0, hW0⟩ : ∃ W0, W0 = w2.setCell ⟨b, 1, none⟩ (.int .i64 (↑p + 1)) := ⟨_, rfl⟩
    have hkW : Scan b s (p + 1) v W0 := by rw [hW0]; exact (Hk2.out.set (p + 1) _ (by go_num))
    have htkW : Tk w.heap.size 1 (bs []) 0 p false false W0 := by rw [hW0]; exact (Htk2.out.stay (Stay.set1 _ b 1 _) (by omega))
    have hstW : Stay w W0 (fun k => k = b) := by rw [hW0]; exact ((Hst2.out.mono (S' := fun k => k = b) (fun _ _ e => e.elim)).setCell _ _ (fun _ => rfl))
    obtain ⟨W, hW⟩ : ∃ W, W = (((((((W0.setCell ⟨w.heap.size, 1, none⟩ (.string tx)).setCell ⟨w.heap.size, 0, none⟩ (.int .i64 1)).setCell ⟨w.heap.size, 1, none⟩ (.string tx)).setCell ⟨w.heap.size, 2, none⟩ (.int .i64 0)).setCell ⟨w.heap.size, 3, none⟩ (.int .i64 p)).setCell ⟨w.heap.size, 4, none⟩ (.bool false)).setCell ⟨w.heap.size, 5, none⟩ (.bool false)).drew := ⟨_, rfl⟩
    have hW2 := hW
    rw [hW0] at hW2
    rw [← hW2]
    clear hW2
    have hblk : Tk w.heap.size 1 tx 0 p false false W := by
      rw [hW]
      exact ((htkW.s1 tx).all 1 0 p tx false false).drew
    have hm3 : Stay W0 W (fun k => k = w.heap.size) := by
      rw [hW]
      exact ((Stay.set1 W0 w.heap.size 1 (.string tx)).trans (Tk.stay_all w.heap.size _ 1 0 p tx false false) (fun _ _ h => h)).drew
    have hfin : Stay w W (fun k => k = b) := hstW.trans hm3 (fun _ h e => by omega)
    refine bodyPost_ret (results_cell_row_tmp (p := 2) (t := 3) (ty := 139) rfl _ _ w.heap.size 139 _ (0, 0) _ rfl hblk Tryz.underlying139 rfl (by kernel_rfl)) rfl ?_
    rw [HR.out]
    exact ⟨rfl, hkW.stay hm3 (by omega), hfin⟩
  rw [if_neg (fun h => h.elim h33 h59)] at HR
  have e33 : (n8 y0 == 33) = false := by simp [h33]
  have e59 : (n8 y0 == 59) = false := by simp [h59]
  by_cases h39 : n8 y0 = 39
  · rw [if_pos h39] at HR
    have hse : Stay w2 (w2.setCell ⟨w.heap.size, 4, none⟩ (.bool true)) (fun k => k = w.heap.size) := Stay.set1 _ _ _ _
    have hke := Hk2.out.stay hse (by omega)
    have hte : Tk w.heap.size 1 (bs []) 0 p true false (w2.setCell ⟨w.heap.size, 4, none⟩ (.bool true)) := Htk2.out.s4 true
    have hste : Stay w (w2.setCell ⟨w.heap.size, 4, none⟩ (.bool true)) (fun k => k = b) := (Hst2.out.mono (S' := fun k => k = b) (fun _ _ e => e.elim)).trans hse (fun _ h e => by omega)
    have hsze : w.heap.size < (w2.setCell ⟨w.heap.size, 4, none⟩ (.bool true)).heap.size := lt_of hte
    clear hse
    rw [h39]
    go_wp2_with fail
    refine (quoted_any b p s v _ hke hm hp ((rest s p).length + 1) (by rw [rest_length]; omega)).mono ?_
    rw [show (rest s p).drop 1 = rest s (p + 1) from rest_drop s p 1] at HR
    generalize quotS ((rest s p).length + 1) (rest s (p + 1)) p (p + 1) = Rq at HR
    intro e w3 h3
    clear d0 d1 f1 u0 u1 u2 u3 u4 u5 t3
    cases Rq with
    | ok r =>
      obtain ⟨tq, n⟩ := r
      obtain ⟨rfl, hk3, hs3⟩ := h3
      simp only [Except.map] at HR
      have hst3 : Stay w w3 (fun k => k = b) := hste.trans hs3 (fun _ _ h => h)
      have htk3 := hte.stay hs3 (by omega)
      generalize bs tq = tx at HR ⊢
      clear hs3 hke hte hste hsze
      have Hfin := hide hk3
      clear hk3
      have hst4 := hide hst3
      have htk4 := hide htk3
      have u0 : w3.cell? ⟨w.heap.size, 0, none⟩ = _ := cell_of htk3 0 _ rfl
      have u1 : w3.cell? ⟨w.heap.size, 1, none⟩ = _ := cell_of htk3 1 _ rfl
      have u2 : w3.cell? ⟨w.heap.size, 2, none⟩ = _ := cell_of htk3 2 _ rfl
      have u3 : w3.cell? ⟨w.heap.size, 3, none⟩ = _ := cell_of htk3 3 _ rfl
      have u4 : w3.cell? ⟨w.heap.size, 4, none⟩ = _ := cell_of htk3 4 _ rfl
      have u5 : w3.cell? ⟨w.heap.size, 5, none⟩ = _ := cell_of htk3 5 _ rfl
      have t3 : ∀ j : Nat, w3.frozen? ⟨w.heap.size, j, none⟩ = false := free_of htk3
      clear hst3 htk3
      go_wp2_with fail
      obtain ⟨W, hW⟩ : ∃ W, W = ((((((w3.setCell ⟨w.heap.size, 1, none⟩ (.string tx)).setCell ⟨w.heap.size, 0, none⟩ (.int .i64 1)).setCell ⟨w.heap.size, 1, none⟩ (.string tx)).setCell ⟨w.heap.size, 2, none⟩ (.int .i64 0)).setCell ⟨w.heap.size, 3, none⟩ (.int .i64 p)).setCell ⟨w.heap.size, 4, none⟩ (.bool true)).setCell ⟨w.heap.size, 5, none⟩ (.bool false) := ⟨_, rfl⟩
      rw [← hW]
      have hblk : Tk w.heap.size 1 tx 0 p true false W := by
        rw [hW]
        exact (htk4.out.s1 tx).all 1 0 p tx true false
      have hm3 : Stay w3 W (fun k => k = w.heap.size) := by
        rw [hW]
        exact (Stay.set1 w3 w.heap.size 1 (.string tx)).trans (Tk.stay_all w.heap.size _ 1 0 p tx true false) (fun _ _ h => h)
      have hfin : Stay w W (fun k => k = b) := hst4.out.trans hm3 (fun _ h e => by omega)
      refine bodyPost_ret (results_cell_row_tmp (p := 2) (t := 3) (ty := 139) rfl _ _ w.heap.size 139 _ (0, 0) _ rfl hblk Tryz.underlying139 rfl (by kernel_rfl)) rfl ?_
      rw [HR.out]
      exact ⟨rfl, by rw [show p + (n + 1) = p + 1 + n from by omega]; exact Hfin.out.stay hm3 (by omega), hfin⟩
    | error r =>
      obtain ⟨c, a⟩ := r
      obtain ⟨ev, rfl, hf, hs3⟩ := h3
      simp only [Except.map] at HR
      have hst3 : Stay w w3 (fun k => k = b) := hste.trans hs3 (fun _ _ h => h)
      have htk3 := hte.stay hs3 (by omega)
      generalize bs [] = tx at htk3 ⊢
      have Hf := hide hf
      clear hs3 hke hte hste hf
      have hst4 := hide hst3
      have htk4 := hide htk3
      have u0 : w3.cell? ⟨w.heap.size, 0, none⟩ = _ := cell_of htk3 0 _ rfl
      have u1 : w3.cell? ⟨w.heap.size, 1, none⟩ = _ := cell_of htk3 1 _ rfl
      have u2 : w3.cell? ⟨w.heap.size, 2, none⟩ = _ := cell_of htk3 2 _ rfl
      have u3 : w3.cell? ⟨w.heap.size, 3, none⟩ = _ := cell_of htk3 3 _ rfl
      have u4 : w3.cell? ⟨w.heap.size, 4, none⟩ = _ := cell_of htk3 4 _ rfl
      have u5 : w3.cell? ⟨w.heap.size, 5, none⟩ = _ := cell_of htk3 5 _ rfl
      have t3 : ∀ j : Nat, w3.frozen? ⟨w.heap.size, j, none⟩ = false := free_of htk3
      clear hst3 htk3
      go_wp2_with fail
      obtain ⟨W, hW⟩ : ∃ W, W = ((((((w3.setCell ⟨w.heap.size, 1, none⟩ (.string tx)).setCell ⟨w.heap.size, 0, none⟩ (.int .i64 1)).setCell ⟨w.heap.size, 1, none⟩ (.string tx)).setCell ⟨w.heap.size, 2, none⟩ (.int .i64 0)).setCell ⟨w.heap.size, 3, none⟩ (.int .i64 p)).setCell ⟨w.heap.size, 4, none⟩ (.bool true)).setCell ⟨w.heap.size, 5, none⟩ (.bool false) := ⟨_, rfl⟩
      rw [← hW]
      have hblk : Tk w.heap.size 1 tx 0 p true false W := by
        rw [hW]
        exact (htk4.out.s1 tx).all 1 0 p tx true false
      have hm3 : Stay w3 W (fun k => k = w.heap.size) := by
        rw [hW]
        exact (Stay.set1 w3 w.heap.size 1 (.string tx)).trans (Tk.stay_all w.heap.size _ 1 0 p tx true false) (fun _ _ h => h)
      have hfin : Stay w W (fun k => k = b) := hst4.out.trans hm3 (fun _ h e => by omega)
      refine bodyPost_ret (results_cell_row_tmp (p := 2) (t := 3) (ty := 139) rfl _ _ w.heap.size 139 _ (0, 0) _ rfl hblk Tryz.underlying139 rfl (by kernel_rfl)) rfl ?_
      rw [HR.out]
      exact ⟨_, ⟨1, tx, 0, p, true, false⟩, rfl, (Hf.out.stay (S := fun k => k = w.heap.size) hm3 (fun k h => by omega)).mono (by omega), hfin⟩
  have e39 : (n8 y0 == 39) = false := by simp [h39]
  rw [if_neg h39] at HR
  by_cases h46 : n8 y0 = 46
  · rw [h46]
    have hl1 := rest_length s p
    have Hl1 := hide hl1
    clear hl1
    by_cases hlast : p + 1 = s.size
    · rw [if_pos ⟨h46, .inl (by rw [Hl1.out]; omega)⟩] at HR
      have hli : (p : Int) + 1 = (s.size : Int) := by omega
      go_wp2_with fail
      go_quiet (fail)
      clear hli
      rename_i nq
      have hsl := slice_at s p (p + 1) (Nat.le_add_right _ _) hle2
      rw [Nat.add_sub_cancel_left] at hsl
      generalize bs ((rest s p).take (1)) = tx at hsl HR
      have hq1 : ((p + 1 : Nat) : Int) = (p : Int) + 1 := by omega
      rw [hq1] at hsl
      clear hq1
      go_wp2_with fail
      go_region
      all_goals go_wp2_with fail
      obtain ⟨W0, hW0⟩ : ∃ W0, W0 = ((w2.drewN nq).setCell ⟨w.heap.size, 0, none⟩ (.int .i64 5)).setCell ⟨b, 1, none⟩ (.int .i64 (↑p + 1)) := ⟨_, rfl⟩
      have hkW : Scan b s (p + 1) v W0 := by rw [hW0]; exact (((Hk2.out.drewN nq).stay (Stay.set1 (w2.drewN nq) w.heap.size 0 (.int .i64 5)) (by omega)).set (p + 1) _ (by go_num))
      have htkW : Tk w.heap.size 5 (bs []) 0 p false false W0 := by rw [hW0]; exact (((Htk2.out.drewN nq).s0 5).stay (Stay.set1 _ b 1 _) (by omega))
      have hstW : Stay w W0 (fun k => k = b) := by rw [hW0]; exact ((((Hst2.out.mono (S' := fun k => k = b) (fun _ _ e => e.elim)).drewN nq).setCell _ _ (fun h => absurd h (Nat.lt_irrefl _))).setCell _ _ (fun _ => rfl))
      obtain ⟨W, hW⟩ : ∃ W, W = (((((((W0.setCell ⟨w.heap.size, 1, none⟩ (.string tx)).setCell ⟨w.heap.size, 0, none⟩ (.int .i64 5)).setCell ⟨w.heap.size, 1, none⟩ (.string tx)).setCell ⟨w.heap.size, 2, none⟩ (.int .i64 0)).setCell ⟨w.heap.size, 3, none⟩ (.int .i64 p)).setCell ⟨w.heap.size, 4, none⟩ (.bool false)).setCell ⟨w.heap.size, 5, none⟩ (.bool false)).drew := ⟨_, rfl⟩
      have hW2 := hW
      rw [hW0] at hW2
      rw [← hW2]
      clear hW2
      have hblk : Tk w.heap.size 5 tx 0 p false false W := by
        rw [hW]
        exact ((htkW.s1 tx).all 5 0 p tx false false).drew
      have hm3 : Stay W0 W (fun k => k = w.heap.size) := by
        rw [hW]
        exact ((Stay.set1 W0 w.heap.size 1 (.string tx)).trans (Tk.stay_all w.heap.size _ 5 0 p tx false false) (fun _ _ h => h)).drew
      have hfin : Stay w W (fun k => k = b) := hstW.trans hm3 (fun _ h e => by omega)
      refine bodyPost_ret (results_cell_row_tmp (p := 2) (t := 3) (ty := 139) rfl _ _ w.heap.size 139 _ (0, 0) _ rfl hblk Tryz.underlying139 rfl (by kernel_rfl)) rfl ?_
      rw [HR.out]
      exact ⟨rfl, hkW.stay hm3 (by omega), hfin⟩
    have hl3 : ((p : Int) + 1 == (s.size : Int)) = false := by
      have : ¬ (p : Int) + 1 = (s.size : Int) := by omega
      simp [this]
    generalize hx1 : pk (rest s p) 1 = x1 at HR
    have Hx1 := hide hx1
    clear hx1
    by_cases hbl : blankB x1 = true
    · rw [if_pos ⟨h46, .inr (.inl hbl)⟩] at HR
      have Hbl := hide hbl
      clear hbl
      go_wp2_with fail
      go_quiet (first | (go_at_call 108; exact Calls.quiet_of (peek1_eq b p s v x1 _ (Hk2.out.drewN _) hm (by omega) Hx1.out)) | (go_at_call 109; exact Calls.quiet_of (blank_yes x1 _ Hbl.out)))
      clear hl3
      rename_i nq
      have hsl := slice_at s p (p + 1) (Nat.le_add_right _ _) hle2
      rw [Nat.add_sub_cancel_left] at hsl
      generalize bs ((rest s p).take (1)) = tx at hsl HR
      have hq1 : ((p + 1 : Nat) : Int) = (p : Int) + 1 := by omega
      rw [hq1] at hsl
      clear hq1
      go_wp2_with fail
      go_region
      all_goals go_wp2_with fail
      obtain ⟨W0, hW0⟩ : ∃ W0, W0 = ((w2.drewN nq).setCell ⟨w.heap.size, 0, none⟩ (.int .i64 5)).setCell ⟨b, 1, none⟩ (.int .i64 (↑p + 1)) := ⟨_, rfl⟩
      have hkW : Scan b s (p + 1) v W0 := by rw [hW0]; exact (((Hk2.out.drewN nq).stay (Stay.set1 (w2.drewN nq) w.heap.size 0 (.int .i64 5)) (by omega)).set (p + 1) _ (by go_num))
      have htkW : Tk w.heap.size 5 (bs []) 0 p false false W0 := by rw [hW0]; exact (((Htk2.out.drewN nq).s0 5).stay (Stay.set1 _ b 1 _) (by omega))
      have hstW : Stay w W0 (fun k => k = b) := by rw [hW0]; exact ((((Hst2.out.mono (S' := fun k => k = b) (fun _ _ e => e.elim)).drewN nq).setCell _ _ (fun h => absurd h (Nat.lt_irrefl _))).setCell _ _ (fun _ => rfl))
      obtain ⟨W, hW⟩ : ∃ W, W = (((((((W0.setCell ⟨w.heap.size, 1, none⟩ (.string tx)).setCell ⟨w.heap.size, 0, none⟩ (.int .i64 5)).setCell ⟨w.heap.size, 1, none⟩ (.string tx)).setCell ⟨w.heap.size, 2, none⟩ (.int .i64 0)).setCell ⟨w.heap.size, 3, none⟩ (.int .i64 p)).setCell ⟨w.heap.size, 4, none⟩ (.bool false)).setCell ⟨w.heap.size, 5, none⟩ (.bool false)).drew := ⟨_, rfl⟩
      have hW2 := hW
      rw [hW0] at hW2
      rw [← hW2]
      clear hW2
      have hblk : Tk w.heap.size 5 tx 0 p false false W := by
        rw [hW]
        exact ((htkW.s1 tx).all 5 0 p tx false false).drew
      have hm3 : Stay W0 W (fun k => k = w.heap.size) := by
        rw [hW]
        exact ((Stay.set1 W0 w.heap.size 1 (.string tx)).trans (Tk.stay_all w.heap.size _ 5 0 p tx false false) (fun _ _ h => h)).drew
      have hfin : Stay w W (fun k => k = b) := hstW.trans hm3 (fun _ h e => by omega)
      refine bodyPost_ret (results_cell_row_tmp (p := 2) (t := 3) (ty := 139) rfl _ _ w.heap.size 139 _ (0, 0) _ rfl hblk Tryz.underlying139 rfl (by kernel_rfl)) rfl ?_
      rw [HR.out]
      exact ⟨rfl, hkW.stay hm3 (by omega), hfin⟩
    have Hbl := hide (Bool.eq_false_iff.2 hbl)
    by_cases h37 : x1 = 37
    · rw [if_pos ⟨h46, .inr (.inr h37)⟩] at HR
      subst h37
      clear hbl
      go_wp2_with fail
      go_quiet (first | (go_at_call 108; exact Calls.quiet_of (peek1_eq b p s v 37 _ (Hk2.out.drewN _) hm (by omega) Hx1.out)) | (go_at_call 109; exact Calls.quiet_of (blank_no 37 _ (by decide))))
      clear hl3
      rename_i nq
      have hsl := slice_at s p (p + 1) (Nat.le_add_right _ _) hle2
      rw [Nat.add_sub_cancel_left] at hsl
      generalize bs ((rest s p).take (1)) = tx at hsl HR
      have hq1 : ((p + 1 : Nat) : Int) = (p : Int) + 1 := by omega
      rw [hq1] at hsl
      clear hq1
      go_wp2_with fail
      go_region
      all_goals go_wp2_with fail
      obtain ⟨W0, hW0⟩ : ∃ W0, W0 = ((w2.drewN nq).setCell ⟨w.heap.size, 0, none⟩ (.int .i64 5)).setCell ⟨b, 1, none⟩ (.int .i64 (↑p + 1)) := ⟨_, rfl⟩
      have hkW : Scan b s (p + 1) v W0 := by rw [hW0]; exact (((Hk2.out.drewN nq).stay (Stay.set1 (w2.drewN nq) w.heap.size 0 (.int .i64 5)) (by omega)).set (p + 1) _ (by go_num))
      have htkW : Tk w.heap.size 5 (bs []) 0 p false false W0 := by rw [hW0]; exact (((Htk2.out.drewN nq).s0 5).stay (Stay.set1 _ b 1 _) (by omega))
      have hstW : Stay w W0 (fun k => k = b) := by rw [hW0]; exact ((((Hst2.out.mono (S' := fun k => k = b) (fun _ _ e => e.elim)).drewN nq).setCell _ _ (fun h => absurd h (Nat.lt_irrefl _))).setCell _ _ (fun _ => rfl))
      obtain ⟨W, hW⟩ : ∃ W, W = (((((((W0.setCell ⟨w.heap.size, 1, none⟩ (.string tx)).setCell ⟨w.heap.size, 0, none⟩ (.int .i64 5)).setCell ⟨w.heap.size, 1, none⟩ (.string tx)).setCell ⟨w.heap.size, 2, none⟩ (.int .i64 0)).setCell ⟨w.heap.size, 3, none⟩ (.int .i64 p)).setCell ⟨w.heap.size, 4, none⟩ (.bool false)).setCell ⟨w.heap.size, 5, none⟩ (.bool false)).drew := ⟨_, rfl⟩
      have hW2 := hW
      rw [hW0] at hW2
      rw [← hW2]
      clear hW2
      have hblk : Tk w.heap.size 5 tx 0 p false false W := by
        rw [hW]
        exact ((htkW.s1 tx).all 5 0 p tx false false).drew
      have hm3 : Stay W0 W (fun k => k = w.heap.size) := by
        rw [hW]
        exact ((Stay.set1 W0 w.heap.size 1 (.string tx)).trans (Tk.stay_all w.heap.size _ 5 0 p tx false false) (fun _ _ h => h)).drew
      have hfin : Stay w W (fun k => k = b) := hstW.trans hm3 (fun _ h e => by omega)
      refine bodyPost_ret (results_cell_row_tmp (p := 2) (t := 3) (ty := 139) rfl _ _ w.heap.size 139 _ (0, 0) _ rfl hblk Tryz.underlying139 rfl (by kernel_rfl)) rfl ?_
      rw [HR.out]
      exact ⟨rfl, hkW.stay hm3 (by omega), hfin⟩
    rw [if_neg (fun h => h.2.elim (fun h => by rw [Hl1.out] at h; omega) (fun h => h.elim hbl h37))] at HR
    have e37 : (x1 == 37) = false := by simp [h37]
    clear hbl
    go_wp2_with fail
    go_quiet (first | (go_at_call 108; exact Calls.quiet_of (peek1_eq b p s v x1 _ (Hk2.out.drewN _) hm (by omega) Hx1.out)) | (go_at_call 109; exact Calls.quiet_of (blank_no x1 _ Hbl.out)))
    clear hl3 e37 h37
    go_wp2_with fail
    refine (sign_any y0 _ h46.symm _).mono ?_
    rintro e w4 ⟨rfl, hw⟩
    have hk4 : Scan b s p v w4 := by rw [← hw]; exact Hk2.out.drewN _
    have htk4 : Tk w.heap.size 1 (bs []) 0 p false false w4 := by rw [← hw]; exact Htk2.out.drewN _
    have hst4 : Stay w w4 (fun k => k = b) := by rw [← hw]; exact (Hst2.out.mono (fun _ _ e => e.elim)).drewN _
    have hsz4 : w.heap.size < w4.heap.size := lt_of htk4
    clear hw d0 d1 f1 u0 u1 u2 u3 u4 u5 t3
    by_cases hsg : signB y0 = true
    · rw [if_pos hsg] at HR
      rw [hsg]
      go_wp2_with fail
      refine (symbols_any b p s v _ hk4 hm (by omega)).mono ?_
      rintro e w3 ⟨rfl, hk3, hs3⟩
      have hst3 : Stay w w3 (fun k => k = b) := hst4.trans hs3 (fun _ _ h => h)
      have htk3 := htk4.stay hs3 (by omega)
      have hle := symS_le (rest s p)
      rw [rest_length] at hle
      clear hle2
      have hle2 : p + symS (rest s p) ≤ s.size := by omega
      clear hs3 hle hk4 hst4 htk4
      have hsl := slice_at s p (p + symS (rest s p)) (Nat.le_add_right _ _) hle2
      rw [Nat.add_sub_cancel_left] at hsl
      generalize bs ((rest s p).take (symS (rest s p))) = tx at hsl HR
      have Hfin := hide hk3
      generalize hqn : p + symS (rest s p) = q at hk3 hsl
      have Hqn := hide hqn
      have d0 := hk3.c0
      have d1 := hk3.c1
      have u0 : w3.cell? ⟨w.heap.size, 0, none⟩ = _ := cell_of htk3 0 _ rfl
      have u1 : w3.cell? ⟨w.heap.size, 1, none⟩ = _ := cell_of htk3 1 _ rfl
      have u2 : w3.cell? ⟨w.heap.size, 2, none⟩ = _ := cell_of htk3 2 _ rfl
      have u3 : w3.cell? ⟨w.heap.size, 3, none⟩ = _ := cell_of htk3 3 _ rfl
      have u4 : w3.cell? ⟨w.heap.size, 4, none⟩ = _ := cell_of htk3 4 _ rfl
      have u5 : w3.cell? ⟨w.heap.size, 5, none⟩ = _ := cell_of htk3 5 _ rfl
      have t3 : ∀ j : Nat, w3.frozen? ⟨w.heap.size, j, none⟩ = false := free_of htk3
      have hl3 := hk3.lt
      have hk3 := Hfin.out
      have Hst3 := hide hst3
      have Htk3 := hide htk3
      clear hk3 hst3 htk3 hqn
      go_wp2_with fail
      go_region
      all_goals go_wp2_with fail
      obtain ⟨W0, hW0⟩ : ∃ W0, W0 = w3 := ⟨_, rfl⟩
      have hkW : Scan b s (p + symS (rest s p)) v W0 := by rw [hW0]; exact Hfin.out
      have htkW : Tk w.heap.size 1 (bs []) 0 p false false W0 := by rw [hW0]; exact Htk3.out
      have hstW : Stay w W0 (fun k => k = b) := by rw [hW0]; exact Hst3.out
      obtain ⟨W, hW⟩ : ∃ W, W = (((((((W0.setCell ⟨w.heap.size, 1, none⟩ (.string tx)).setCell ⟨w.heap.size, 0, none⟩ (.int .i64 1)).setCell ⟨w.heap.size, 1, none⟩ (.string tx)).setCell ⟨w.heap.size, 2, none⟩ (.int .i64 0)).setCell ⟨w.heap.size, 3, none⟩ (.int .i64 p)).setCell ⟨w.heap.size, 4, none⟩ (.bool false)).setCell ⟨w.heap.size, 5, none⟩ (.bool false)).drew := ⟨_, rfl⟩
      have hW2 := hW
      rw [hW0] at hW2
      rw [← hW2]
      clear hW2
      have hblk : Tk w.heap.size 1 tx 0 p false false W := by
        rw [hW]
        exact ((htkW.s1 tx).all 1 0 p tx false false).drew
      have hm3 : Stay W0 W (fun k => k = w.heap.size) := by
        rw [hW]
        exact ((Stay.set1 W0 w.heap.size 1 (.string tx)).trans (Tk.stay_all w.heap.size _ 1 0 p tx false false) (fun _ _ h => h)).drew
      have hfin : Stay w W (fun k => k = b) := hstW.trans hm3 (fun _ h e => by omega)
      refine bodyPost_ret (results_cell_row_tmp (p := 2) (t := 3) (ty := 139) rfl _ _ w.heap.size 139 _ (0, 0) _ rfl hblk Tryz.underlying139 rfl (by kernel_rfl)) rfl ?_
      rw [HR.out]
      exact ⟨rfl, hkW.stay hm3 (by omega), hfin⟩
    rw [if_neg hsg] at HR
    rw [Bool.eq_false_iff.2 hsg]
    have d0 := hk4.c0
    have d1 := hk4.c1
    go_wp2_with fail
    refine (new_any 80 _ (by decide) _).mono ?_
    rintro e w3 ⟨q0, rfl, hq0, hw⟩
    have hk3 : Scan b s (p + 0) v w3 := by rw [hw]; exact hk4.stay (S := fun _ => False) ((Stay.refl _ _).alloc _) (fun e => e)
    have htk3 : Tk w.heap.size 1 (bs []) 0 p false false w3 := by rw [hw]; exact htk4.stay (S := fun _ => False) ((Stay.refl _ _).alloc _) (fun e => e)
    have hst3 : Stay w w3 (fun k => k = b) := by rw [hw]; exact hst4.alloc _
    have hf : Fault w4.heap.size (.iface 108 (.pointer (some ⟨q0, 0, none⟩))) 80 p w3 := ⟨q0, by omega, rfl, by rw [hw, hq0]; exact heap_alloc_new _ _⟩
    have Hf := hide hf
    clear hle2
    have hle2 : p + 0 ≤ s.size := by omega
    clear hf hw hk4 hst4 htk4 d0 d1 hq0
    have hsl := slice_at s p (p + 0) (Nat.le_add_right _ _) hle2
    rw [Nat.add_sub_cancel_left] at hsl
    generalize bs ((rest s p).take (0)) = tx at hsl
    have Hfin := hide hk3
    generalize hqn : p + 0 = q at hk3 hsl
    have Hqn := hide hqn
    have d0 := hk3.c0
    have d1 := hk3.c1
    have u0 : w3.cell? ⟨w.heap.size, 0, none⟩ = _ := cell_of htk3 0 _ rfl
    have u1 : w3.cell? ⟨w.heap.size, 1, none⟩ = _ := cell_of htk3 1 _ rfl
    have u2 : w3.cell? ⟨w.heap.size, 2, none⟩ = _ := cell_of htk3 2 _ rfl
    have u3 : w3.cell? ⟨w.heap.size, 3, none⟩ = _ := cell_of htk3 3 _ rfl
    have u4 : w3.cell? ⟨w.heap.size, 4, none⟩ = _ := cell_of htk3 4 _ rfl
    have u5 : w3.cell? ⟨w.heap.size, 5, none⟩ = _ := cell_of htk3 5 _ rfl
    have t3 : ∀ j : Nat, w3.frozen? ⟨w.heap.size, j, none⟩ = false := free_of htk3
    have hl3 := hk3.lt
    have hk3 := Hfin.out
    have Hst3 := hide hst3
    have Htk3 := hide htk3
    clear hk3 hst3 htk3 hqn
    go_wp2_with fail
    go_region
    all_goals go_wp2_with fail
    obtain ⟨W0, hW0⟩ : ∃ W0, W0 = w3 := ⟨_, rfl⟩
    have hkW : Scan b s (p + 0) v W0 := by rw [hW0]; exact Hfin.out
    have htkW : Tk w.heap.size 1 (bs []) 0 p false false W0 := by rw [hW0]; exact Htk3.out
    have hstW : Stay w W0 (fun k => k = b) := by rw [hW0]; exact Hst3.out
    obtain ⟨W, hW⟩ : ∃ W, W = (((((((W0.setCell ⟨w.heap.size, 1, none⟩ (.string tx)).setCell ⟨w.heap.size, 0, none⟩ (.int .i64 1)).setCell ⟨w.heap.size, 1, none⟩ (.string tx)).setCell ⟨w.heap.size, 2, none⟩ (.int .i64 0)).setCell ⟨w.heap.size, 3, none⟩ (.int .i64 p)).setCell ⟨w.heap.size, 4, none⟩ (.bool false)).setCell ⟨w.heap.size, 5, none⟩ (.bool false)).drew := ⟨_, rfl⟩
    have hW2 := hW
    rw [hW0] at hW2
    rw [← hW2]
    clear hW2
    have hblk : Tk w.heap.size 1 tx 0 p false false W := by
      rw [hW]
      exact ((htkW.s1 tx).all 1 0 p tx false false).drew
    have hm3 : Stay W0 W (fun k => k = w.heap.size) := by
      rw [hW]
      exact ((Stay.set1 W0 w.heap.size 1 (.string tx)).trans (Tk.stay_all w.heap.size _ 1 0 p tx false false) (fun _ _ h => h)).drew
    have hfin : Stay w W (fun k => k = b) := hstW.trans hm3 (fun _ h e => by omega)
    refine bodyPost_ret (results_cell_row_tmp (p := 2) (t := 3) (ty := 139) rfl _ _ w.heap.size 139 _ (0, 0) _ rfl hblk Tryz.underlying139 rfl (by kernel_rfl)) rfl ?_
    rw [HR.out]
    exact ⟨_, ⟨1, tx, 0, p, false, false⟩, rfl, (Hf.out.stay (S := fun k => k = w.heap.size) (by rw [hW0] at hm3; exact hm3) (fun k h => by omega)).mono (by omega), hfin⟩
  rw [if_neg (fun h => h46 h.1)] at HR
  have e46 : (n8 y0 == 46) = false := by simp [h46]
  go_wp2_with fail
  go_quiet (fail)
  go_wp2_with fail
  refine (sign_any y0 _ rfl _).mono ?_
  rintro e w4 ⟨rfl, hw⟩
  have hk4 : Scan b s p v w4 := by rw [← hw]; exact Hk2.out.drewN _
  have htk4 : Tk w.heap.size 1 (bs []) 0 p false false w4 := by rw [← hw]; exact Htk2.out.drewN _
  have hst4 : Stay w w4 (fun k => k = b) := by rw [← hw]; exact (Hst2.out.mono (fun _ _ e => e.elim)).drewN _
  have hsz4 : w.heap.size < w4.heap.size := lt_of htk4
  clear hw d0 d1 f1 u0 u1 u2 u3 u4 u5 t3
  by_cases hsg : signB y0 = true
  · rw [if_pos hsg] at HR
    rw [hsg]
    go_wp2_with fail
    refine (symbols_any b p s v _ hk4 hm (by omega)).mono ?_
    rintro e w3 ⟨rfl, hk3, hs3⟩
    have hst3 : Stay w w3 (fun k => k = b) := hst4.trans hs3 (fun _ _ h => h)
    have htk3 := htk4.stay hs3 (by omega)
    have hle := symS_le (rest s p)
    rw [rest_length] at hle
    clear hle2
    have hle2 : p + symS (rest s p) ≤ s.size := by omega
    clear hs3 hle hk4 hst4 htk4
    have hsl := slice_at s p (p + symS (rest s p)) (Nat.le_add_right _ _) hle2
    rw [Nat.add_sub_cancel_left] at hsl
    generalize bs ((rest s p).take (symS (rest s p))) = tx at hsl HR
    have Hfin := hide hk3
    generalize hqn : p + symS (rest s p) = q at hk3 hsl
    have Hqn := hide hqn
    have d0 := hk3.c0
    have d1 := hk3.c1
    have u0 : w3.cell? ⟨w.heap.size, 0, none⟩ = _ := cell_of htk3 0 _ rfl
    have u1 : w3.cell? ⟨w.heap.size, 1, none⟩ = _ := cell_of htk3 1 _ rfl
    have u2 : w3.cell? ⟨w.heap.size, 2, none⟩ = _ := cell_of htk3 2 _ rfl
    have u3 : w3.cell? ⟨w.heap.size, 3, none⟩ = _ := cell_of htk3 3 _ rfl
    have u4 : w3.cell? ⟨w.heap.size, 4, none⟩ = _ := cell_of htk3 4 _ rfl
    have u5 : w3.cell? ⟨w.heap.size, 5, none⟩ = _ := cell_of htk3 5 _ rfl
    have t3 : ∀ j : Nat, w3.frozen? ⟨w.heap.size, j, none⟩ = false := free_of htk3
    have hl3 := hk3.lt
    have hk3 := Hfin.out
    have Hst3 := hide hst3
    have Htk3 := hide htk3
    clear hk3 hst3 htk3 hqn
    go_wp2_with fail
    go_region
    all_goals go_wp2_with fail
    obtain ⟨W0, hW0⟩ : ∃ W0, W0 = w3 := ⟨_, rfl⟩
    have hkW : Scan b s (p + symS (rest s p)) v W0 := by rw [hW0]; exact Hfin.out
    have htkW : Tk w.heap.size 1 (bs []) 0 p false false W0 := by rw [hW0]; exact Htk3.out
    have hstW : Stay w W0 (fun k => k = b) := by rw [hW0]; exact Hst3.out
    obtain ⟨W, hW⟩ : ∃ W, W = (((((((W0.setCell ⟨w.heap.size, 1, none⟩ (.string tx)).setCell ⟨w.heap.size, 0, none⟩ (.int .i64 1)).setCell ⟨w.heap.size, 1, none⟩ (.string tx)).setCell ⟨w.heap.size, 2, none⟩ (.int .i64 0)).setCell ⟨w.heap.size, 3, none⟩ (.int .i64 p)).setCell ⟨w.heap.size, 4, none⟩ (.bool false)).setCell ⟨w.heap.size, 5, none⟩ (.bool false)).drew := ⟨_, rfl⟩
    have hW2 := hW
    rw [hW0] at hW2
    rw [← hW2]
    clear hW2
    have hblk : Tk w.heap.size 1 tx 0 p false false W := by
      rw [hW]
      exact ((htkW.s1 tx).all 1 0 p tx false false).drew
    have hm3 : Stay W0 W (fun k => k = w.heap.size) := by
      rw [hW]
      exact ((Stay.set1 W0 w.heap.size 1 (.string tx)).trans (Tk.stay_all w.heap.size _ 1 0 p tx false false) (fun _ _ h => h)).drew
    have hfin : Stay w W (fun k => k = b) := hstW.trans hm3 (fun _ h e => by omega)
    refine bodyPost_ret (results_cell_row_tmp (p := 2) (t := 3) (ty := 139) rfl _ _ w.heap.size 139 _ (0, 0) _ rfl hblk Tryz.underlying139 rfl (by kernel_rfl)) rfl ?_
    rw [HR.out]
    exact ⟨rfl, hkW.stay hm3 (by omega), hfin⟩
  rw [if_neg hsg] at HR
  rw [Bool.eq_false_iff.2 hsg]
  have d0 := hk4.c0
  have d1 := hk4.c1
  go_wp2_with fail
  refine (new_any 80 _ (by decide) _).mono ?_
  rintro e w3 ⟨q0, rfl, hq0, hw⟩
  have hk3 : Scan b s (p + 0) v w3 := by rw [hw]; exact hk4.stay (S := fun _ => False) ((Stay.refl _ _).alloc _) (fun e => e)
  have htk3 : Tk w.heap.size 1 (bs []) 0 p false false w3 := by rw [hw]; exact htk4.stay (S := fun _ => False) ((Stay.refl _ _).alloc _) (fun e => e)
  have hst3 : Stay w w3 (fun k => k = b) := by rw [hw]; exact hst4.alloc _
  have hf : Fault w4.heap.size (.iface 108 (.pointer (some ⟨q0, 0, none⟩))) 80 p w3 := ⟨q0, by omega, rfl, by rw [hw, hq0]; exact heap_alloc_new _ _⟩
  have Hf := hide hf
  clear hle2
  have hle2 : p + 0 ≤ s.size := by omega
  clear hf hw hk4 hst4 htk4 d0 d1 hq0
  have hsl := slice_at s p (p + 0) (Nat.le_add_right _ _) hle2
  rw [Nat.add_sub_cancel_left] at hsl
  generalize bs ((rest s p).take (0)) = tx at hsl
  have Hfin := hide hk3
  generalize hqn : p + 0 = q at hk3 hsl
  have Hqn := hide hqn
  have d0 := hk3.c0
  have d1 := hk3.c1
  have u0 : w3.cell? ⟨w.heap.size, 0, none⟩ = _ := cell_of htk3 0 _ rfl
  have u1 : w3.cell? ⟨w.heap.size, 1, none⟩ = _ := cell_of htk3 1 _ rfl
  have u2 : w3.cell? ⟨w.heap.size, 2, none⟩ = _ := cell_of htk3 2 _ rfl
  have u3 : w3.cell? ⟨w.heap.size, 3, none⟩ = _ := cell_of htk3 3 _ rfl
  have u4 : w3.cell? ⟨w.heap.size, 4, none⟩ = _ := cell_of htk3 4 _ rfl
  have u5 : w3.cell? ⟨w.heap.size, 5, none⟩ = _ := cell_of htk3 5 _ rfl
  have t3 : ∀ j : Nat, w3.frozen? ⟨w.heap.size, j, none⟩ = false := free_of htk3
  have hl3 := hk3.lt
  have hk3 := Hfin.out
  have Hst3 := hide hst3
  have Htk3 := hide htk3
  clear hk3 hst3 htk3 hqn
  go_wp2_with fail
  go_region
  all_goals go_wp2_with fail
  obtain ⟨W0, hW0⟩ : ∃ W0, W0 = w3 := ⟨_, rfl⟩
  have hkW : Scan b s (p + 0) v W0 := by rw [hW0]; exact Hfin.out
  have htkW : Tk w.heap.size 1 (bs []) 0 p false false W0 := by rw [hW0]; exact Htk3.out
  have hstW : Stay w W0 (fun k => k = b) := by rw [hW0]; exact Hst3.out
  obtain ⟨W, hW⟩ : ∃ W, W = (((((((W0.setCell ⟨w.heap.size, 1, none⟩ (.string tx)).setCell ⟨w.heap.size, 0, none⟩ (.int .i64 1)).setCell ⟨w.heap.size, 1, none⟩ (.string tx)).setCell ⟨w.heap.size, 2, none⟩ (.int .i64 0)).setCell ⟨w.heap.size, 3, none⟩ (.int .i64 p)).setCell ⟨w.heap.size, 4, none⟩ (.bool false)).setCell ⟨w.heap.size, 5, none⟩ (.bool false)).drew := ⟨_, rfl⟩
  have hW2 := hW
  rw [hW0] at hW2
  rw [← hW2]
  clear hW2
  have hblk : Tk w.heap.size 1 tx 0 p false false W := by
    rw [hW]
    exact ((htkW.s1 tx).all 1 0 p tx false false).drew
  have hm3 : Stay W0 W (fun k => k = w.heap.size) := by
    rw [hW]
    exact ((Stay.set1 W0 w.heap.size 1 (.string tx)).trans (Tk.stay_all w.heap.size _ 1 0 p tx false false) (fun _ _ h => h)).drew
  have hfin : Stay w W (fun k => k = b) := hstW.trans hm3 (fun _ h e => by omega)
  refine bodyPost_ret (results_cell_row_tmp (p := 2) (t := 3) (ty := 139) rfl _ _ w.heap.size 139 _ (0, 0) _ rfl hblk Tryz.underlying139 rfl (by kernel_rfl)) rfl ?_
  rw [HR.out]
  exact ⟨_, ⟨1, tx, 0, p, false, false⟩, rfl, (Hf.out.stay (S := fun k => k = w.heap.size) (by rw [hW0] at hm3; exact hm3) (fun k h => by omega)).mono (by omega), hfin⟩

end Go.Proofs.YtgidbplaoijalaaGreatRDoor

/- The walks of package lex, 8: skip. -/
namespace Go.Proofs.YtgidbplaoijalaaGreatRDoor
set_option linter.unusedSimpArgs false
open Go.RowKit Go.Proofs.YtgidbplaoijalaaGreatRDoorW.PrintWords
set_option linter.unusedVariables false

/-- The variable that says how long a text internal/bytealg searches itself. -/
def MaxVar (w : World) : Prop := ∃ m : Int, w.cell? ⟨1, 0, none⟩ = some (.int .i64 m)
theorem MaxVar.stay {w w1 : World} {S : Nat → Prop} (h : MaxVar w) (hs : Stay w w1 S) (hn : ¬ S 1) : MaxVar w1 := by
  obtain ⟨m, h⟩ := h
  exact ⟨m, hs.cell h hn⟩
theorem RangeVar.stay {w w1 : World} {S : Nat → Prop} (h : RangeVar w) (hs : Stay w w1 S) (hn : ¬ S 2) : RangeVar w1 := by
  obtain ⟨m, h⟩ := h
  exact ⟨m, hs.cell h hn⟩

theorem index_at (t : ByteArray) (z : Int) (w : World) (hs : t.size < 4294967281) (hm : MaxVar w) (hz : Lib.index t.data.toList [42, 47] = z) :
    Calls Tryz.prog 112 #[.string t, .string (⟨#[42, 47]⟩ : ByteArray)] w fun e w' => e = .returned (.int .i64 z) ∧ Quiet w w' := by
  obtain ⟨m, hm⟩ := hm
  subst hz
  exact (Tryz.strings_Index t ⟨#[42, 47]⟩ m w hs hm).mono (by rintro e w' ⟨rfl, rfl⟩; exact ⟨rfl, Quiet.refl _⟩)

theorem slice_from (s : ByteArray) (i : Nat) (h : i ≤ s.size) (W : World) : (Instr.slice 9 (.string s) (some (.int .i64 (i : Int))) none none).run Tryz.prog W = .ok (.string (bs (rest s i))) W := by
  have hr := run_slice_string_l (P := Tryz.prog) (w := W) 9 s Tryz.underlying9 .i64 i (by omega) (by omega)
  rw [hr, Int.toNat_natCast, extract_rest, List.take_of_length_le (by rw [rest_length]; omega)]

theorem shift_shift {α : Type} (a b : Nat) (x : Except Nat (α × Nat)) : shiftE a (shiftE b x) = shiftE (a + b) x := by
  cases x with
  | error e => simp [shiftE]; omega
  | ok r => simp [shiftE]; omega
theorem shift_zero {α : Type} (x : Except Nat (α × Nat)) : shiftE 0 x = x := by
  cases x with
  | error e => simp [shiftE]
  | ok r => simp [shiftE]

theorem skipS_at (f : Nat) (s : ByteArray) (k : Nat) (h : k < s.size) : skipS (f + 1) (rest s k) =
    if blankB (pk (rest s k) 0) = true then shiftE 1 (skipS f (rest s (k + 1)))
    else if pk (rest s k) 0 = 37 then shiftE (runS notNl (rest s k)) (skipS f (rest s (k + runS notNl (rest s k))))
    else if pk (rest s k) 0 = 47 ∧ pk (rest s k) 1 = 42 then
      if Lib.index (rest s (k + 2)) [42, 47] < 0 then .error 0 else shiftE ((Lib.index (rest s (k + 2)) [42, 47]).toNat + 4) (skipS f (rest s (k + ((Lib.index (rest s (k + 2)) [42, 47]).toNat + 4))))
    else .ok ((), 0) := by
  have hc := rest_cons s k h
  have hd : (rest s (k + 1)).drop 1 = rest s (k + 2) := rest_drop s (k + 1) 1
  have hq : ∀ c r, skipS (f + 1) (c :: r) = if blankB (n8 c) = true then shiftE 1 (skipS f r)
    else if n8 c = 37 then shiftE (runS notNl (c :: r)) (skipS f ((c :: r).drop (runS notNl (c :: r))))
    else if n8 c = 47 ∧ pk (c :: r) 1 = 42 then
      if Lib.index (r.drop 1) [42, 47] < 0 then .error 0 else shiftE ((Lib.index (r.drop 1) [42, 47]).toNat + 4) (skipS f ((c :: r).drop ((Lib.index (r.drop 1) [42, 47]).toNat + 4)))
    else .ok ((), 0) := fun c r => rfl
  have h0 := hq ((rest s k).getD 0 0) (rest s (k + 1))
  rw [← hc, hd, rest_drop, rest_drop] at h0
  exact h0

theorem index_room (l : List UInt8) (z : Int) (h : Lib.index l [42, 47] = z) (hz : 0 ≤ z) : z.toNat + 2 ≤ l.length := by
  by_cases hex : ∃ j, j ≤ l.length ∧ Lib.occAt l [42, 47] j = true
  · obtain ⟨j, hj, ho⟩ := hex
    have : ∃ i, Lib.occAt l [42, 47] i = true ∧ ∀ k, k < i → Lib.occAt l [42, 47] k = false := by
      induction j using Nat.strongRecOn with
      | ind j ih =>
        by_cases hk : ∃ k, k < j ∧ Lib.occAt l [42, 47] k = true
        · obtain ⟨k, hk1, hk2⟩ := hk
          exact ih k hk1 (by omega) hk2
        · exact ⟨j, ho, fun k hk1 => by
            cases hb : Lib.occAt l [42, 47] k with
            | false => rfl
            | true => exact absurd ⟨k, hk1, hb⟩ hk⟩
    obtain ⟨i, hi, hf⟩ := this
    have hr := Lib.occAt_room hi
    rcases hr with hr | hr
    · have := Lib.index_first (by simp at hr; omega) hi hf
      simp at hr
      omega
    · exact absurd hr (by simp)
  · have := Lib.index_none (s := l) (sub := [42, 47]) (fun j hj => by
      cases hb : Lib.occAt l [42, 47] j with
      | false => rfl
      | true => exact absurd ⟨j, hj, hb⟩ hex)
    omega

/-- What going over blanks and remarks leaves. -/
def SkipPost (b p : Nat) (s : ByteArray) (v : Value) (w : World) (r : Except Nat (Unit × Nat)) (e : Ending) (w' : World) : Prop :=
  match r with
  | .ok (_, n) => e = .returned (.tuple #[.bool (decide (0 < n)), .nilIface]) ∧ Scan b s (p + n) v w' ∧ p + n ≤ s.size ∧ Stay w w' (fun k => k = b)
  | .error k => ∃ ev, e = .returned (.tuple #[.bool false, ev]) ∧ Fault w.heap.size ev 81 (p + k : Nat) w' ∧ Stay w w' (fun k => k = b)

structure KLoop (b p : Nat) (s : ByteArray) (v : Value) (R : Except Nat (Unit × Nat)) (w wr : World) : Prop where
  ex : ∃ (k f : Nat), Scan b s k v wr ∧ p ≤ k ∧ k ≤ s.size ∧ s.size - k < f ∧ R = shiftE (k - p) (skipS f (rest s k))
  st : Stay w wr (fun k => k = b)

set_option maxHeartbeats 2000000 in
set_option maxRecDepth 100000 in
theorem skip_any (b p : Nat) (s : ByteArray) (v : Value) (w : World) (h : Scan b s p v w) (hm : s.size ≤ 16384) (hp : p ≤ s.size) (hG : MaxVar w) (hbg : 9 ≤ b) (F : Nat) (hF : s.size - p < F) :
    Calls Tryz.prog 76 #[.pointer (some ⟨b, 0, none⟩)] w (SkipPost b p s v w (skipS F (rest s p))) := by
  have c0 := h.c0
  have c1 := h.c1
  have f1 := h.fr 1
  have hb := h.lt
  have hR : skipS F (rest s p) = shiftE (p - p) (skipS F (rest s p)) := by rw [Nat.sub_self, shift_zero]
  obtain ⟨R, hRR⟩ : ∃ R, skipS F (rest s p) = R := ⟨_, rfl⟩
  rw [hRR]
  rw [hRR] at hR
  conv at hR => rhs; rw [← hRR]
  clear hRR
  have HR := hide hR
  have H := hide h
  have HG := hide hG
  clear hR h hG
  go_enter Tryz.func76, Tryz.ntmps76
  go_wp2_with fail
  go_loopw [] (fun wr => KLoop b p s v R w wr) (fun wr => match wr.cell? ⟨b, 1, none⟩ with | some (.int _ n) => s.size - n.toNat | _ => 0)
  case atStart => exact ⟨⟨p, F, H.out, Nat.le_refl _, hp, hF, HR.out⟩, Stay.refl _ _⟩
  case round =>
    obtain ⟨⟨k, f, hk, hpk, hks, hf, hRk⟩, hst⟩ := hrel
    have HRk := hide hRk
    have Hst := hide hst
    have Hk := hide hk
    clear hRk hst HR c0 c1 f1
    obtain ⟨f, rfl⟩ : ∃ m, f = m + 1 := ⟨f - 1, by omega⟩
    by_cases hlt : k < s.size
    · rw [skipS_at f s k hlt] at HRk
      go_wp2_with fail
      refine (ended_no b k s v _ hk hlt).mono ?_
      rintro e w1 ⟨rfl, hq1⟩
      have hk1 := hk.stay (hq1.stay (fun _ => False)) (fun e => e)
      have hst1 := Hst.out.trans (hq1.stay (fun k => k = b)) (fun _ _ h => h)
      clear hk
      go_wp2_with fail
      refine (peek0 b k s v _ hk1 hm hks).mono ?_
      rintro e w2 ⟨rfl, hq2⟩
      have hk2 := hk1.stay (hq2.stay (fun _ => False)) (fun e => e)
      have hst2 := hst1.trans (hq2.stay (fun k => k = b)) (fun _ _ h => h)
      have Hst2 := hide hst2
      have Hk2 := hide hk2
      have hG2 := HG.out.stay Hst2.out (by show ¬ 1 = b; omega)
      have HG2 := hide hG2
      clear hk1 hst1 hq1 hq2 hk2 hst2 hG2
      have hru := runS_at notNl s k hlt
      generalize pk (rest s k) 0 = x0 at HRk hru ⊢
      go_wp2_with fail
      refine (blank_any x0 _).mono ?_
      rintro e w2' ⟨rfl, hw⟩
      subst w2'
      have c0 := Hk2.out.c0
      have c1 := Hk2.out.c1
      have f1 := Hk2.out.fr 1
      have hbr := Hk2.out.lt
      by_cases hbl : blankB x0 = true
      · rw [if_pos hbl] at HRk
        rw [hbl]
        go_wp2_with fail
        go_roundw
        case rel => exact ⟨⟨k + 1, f, Hk2.out.set (k + 1) _ (by go_num), by omega, by omega, by omega, by rw [HRk.out, shift_shift, show k - p + 1 = k + 1 - p from by omega]⟩, Hst2.out.setCell _ _ (fun _ => rfl)⟩
        case measure => have cwr := Hk.out.c1; go_simp; omega
      rw [if_neg hbl] at HRk
      rw [Bool.eq_false_iff.2 hbl]
      by_cases h37 : x0 = 37
      · rw [if_pos h37] at HRk
        subst h37
        rw [if_pos (by decide)] at hru
        have Hru := hide hru
        have hle := runS_le notNl (rest s k)
        rw [rest_length] at hle
        clear hru
        go_wp2_with fail
        refine (while_notNl b k s v _ Hk2.out hm hks).mono ?_
        rintro e w3 ⟨rfl, hk3, hs3⟩
        have hst3 := Hst2.out.trans hs3 (fun _ _ h => h)
        have hn1 : 1 ≤ runS notNl (rest s k) := by rw [Hru.out]; exact Nat.le_add_left _ _
        generalize runS notNl (rest s k) = n at HRk hle hk3 hn1
        go_wp2_with fail
        go_roundw
        case rel => exact ⟨⟨k + n, f, hk3, by omega, by omega, by omega, by rw [HRk.out, shift_shift, show k - p + n = k + n - p from by omega]⟩, hst3⟩
        case measure => have cwr := Hk.out.c1; have c3 := hk3.c1; go_simp; omega
      rw [if_neg h37] at HRk
      have e37 : (x0 == 37) = false := by simp [h37]
      clear hru
      by_cases h47 : x0 = 47
      · have hpk := peek1 b k s v w2 Hk2.out hm hks
        by_cases h42 : pk (rest s k) 1 = 42
        · rw [if_pos ⟨h47, h42⟩] at HRk
          rw [h42] at hpk
          have hlt2 : k + 1 < s.size := by
            by_cases h : k + 1 < s.size
            · exact h
            · rw [pk_out s k 1 (by omega)] at h42; omega
          subst h47
          clear h42
          go_wp2_with fail
          refine hpk.mono ?_
          rintro e w3 ⟨rfl, hq3⟩
          clear hpk c0 c1 f1
          have hk3 := Hk2.out.stay (hq3.stay (fun _ => False)) (fun e => e)
          have hst3 := Hst2.out.trans (hq3.stay (fun k => k = b)) (fun _ _ h => h)
          have Hk3 := hide hk3
          have Hst3 := hide hst3
          have HG3 := hide (HG.out.stay Hst3.out (by show ¬ 1 = b; omega))
          clear hk3 hst3 hq3
          have c0 := Hk3.out.c0
          have c1 := Hk3.out.c1
          have f1 := Hk3.out.fr 1
          have hbr3 := Hk3.out.lt
          have hsl := slice_from s (k + 2) (by omega)
          rw [show ((k + 2 : Nat) : Int) = (k : Int) + 2 from by omega] at hsl
          have hts : (bs (rest s (k + 2))).size < 4294967281 := by rw [bs_size, rest_length]; omega
          generalize hz : Lib.index (rest s (k + 2)) [42, 47] = z at HRk
          have hroom := index_room _ z hz
          rw [rest_length] at hroom
          rw [← bs_list (rest s (k + 2))] at hz
          generalize bs (rest s (k + 2)) = tx at hsl hts hz
          have Hz := hide hz
          have Hroom := hide hroom
          clear hz hroom
          go_wp2_with fail
          go_quiet ((go_at_call 112; exact Calls.quiet_of (index_at tx z _ hts (HG3.out.stay ((Stay.refl _ (fun _ => False)).drewN _) (fun e => e)) Hz.out)))
          clear hsl
          by_cases hz0 : z < 0
          · rw [if_pos hz0] at HRk
            have hsz3 : w.heap.size ≤ w3.heap.size := Hst3.out.size
            go_wp2_with fail
            refine (new_any 81 _ (by decide) _).mono ?_
            rintro e w4 ⟨q, rfl, rfl, rfl⟩
            go_wp2_with fail
            go_ret2
            rw [HRk.out]
            refine ⟨_, rfl, ⟨_, hsz3, rfl, ?_⟩, (Hst3.out.drewN _).alloc _⟩
            rw [show ((p + (0 + (k - p)) : Nat) : Int) = (k : Int) from by omega]
            exact heap_alloc_new _ _
          · rw [if_neg hz0] at HRk
            have hz1 := Hroom.out (by omega)
            obtain ⟨n, rfl⟩ : ∃ n : Nat, z = n := ⟨z.toNat, by omega⟩
            rw [Int.toNat_natCast] at HRk hz1
            go_wp2_with fail
            go_roundw
            case rel => exact ⟨⟨k + (n + 4), f, (Hk3.out.drewN _).set (k + (n + 4)) _ (by go_num), by omega, by omega, by omega, by rw [HRk.out, shift_shift, show k - p + (n + 4) = k + (n + 4) - p from by omega]⟩, (Hst3.out.drewN _).setCell _ _ (fun _ => rfl)⟩
            case measure => have cwr := Hk.out.c1; go_simp; omega
        · rw [if_neg (fun h => h42 h.2)] at HRk
          subst h47
          generalize pk (rest s k) 1 = x1 at hpk h42
          have e42 : (x1 == 42) = false := by simp [h42]
          go_wp2_with fail
          refine hpk.mono ?_
          rintro e w3 ⟨rfl, hq3⟩
          clear hpk c0 c1 f1
          have hk3 := Hk2.out.stay (hq3.stay (fun _ => False)) (fun e => e)
          have c1 := hk3.c1
          have Hk3 := hide hk3
          have Hst3 := hide (Hst2.out.trans (hq3.stay (fun k => k = b)) (fun _ _ h => h))
          clear hk3 hq3
          go_wp2_with fail
          go_ret2
          rw [HRk.out]
          refine ⟨?_, ?_, ?_, Hst3.out⟩
          · simp only [Nat.zero_add]
            rw [show decide (0 < k - p) = decide (p < k) from by rw [decide_eq_decide]; omega]; rfl
          · rw [show p + (0 + (k - p)) = k from by omega]; exact Hk3.out
          · omega
      · have e47 : (x0 == 47) = false := by simp [h47]
        rw [if_neg (fun h => h47 h.1)] at HRk
        go_wp2_with fail
        go_ret2
        rw [HRk.out]
        refine ⟨?_, ?_, ?_, Hst2.out⟩
        · simp only [Nat.zero_add]
          rw [show decide (0 < k - p) = decide (p < k) from by rw [decide_eq_decide]; omega]; rfl
        · rw [show p + (0 + (k - p)) = k from by omega]; exact Hk2.out
        · omega
    · rw [rest_nil s k (by omega), show skipS (f + 1) [] = .ok ((), 0) from rfl] at HRk
      go_wp2_with fail
      refine (ended_yes b k s v _ hk (by omega)).mono ?_
      rintro e w1 ⟨rfl, hq1⟩
      have hk1 := hk.stay (hq1.stay (fun _ => False)) (fun e => e)
      have c1 := hk1.c1
      have Hk1 := hide hk1
      have Hst1 := hide (Hst.out.trans (hq1.stay (fun k => k = b)) (fun _ _ h => h))
      clear hk hk1 hq1
      go_wp2_with fail
      go_ret2
      rw [HRk.out]
      refine ⟨?_, ?_, ?_, Hst1.out⟩
      · simp only [Nat.zero_add]
        rw [show decide (0 < k - p) = decide (p < k) from by rw [decide_eq_decide]; omega]; rfl
      · rw [show p + (0 + (k - p)) = k from by omega]; exact Hk1.out
      · omega
end Go.Proofs.YtgidbplaoijalaaGreatRDoor

/- The walks of package lex, 9: Tokens. -/
namespace Go.Proofs.YtgidbplaoijalaaGreatRDoor
set_option linter.unusedSimpArgs false
open Go.RowKit Go.Proofs.YtgidbplaoijalaaGreatRDoorW.PrintWords
set_option linter.unusedVariables false

theorem pk_len (r : List UInt8) (n : Nat) (h : pk r n ≠ 0) : n < r.length := by
  by_cases hl : n < r.length
  · exact hl
  · exfalso; apply h
    unfold pk n8
    rw [List.getD_eq_getElem?_getD, List.getElem?_eq_none (by omega)]
    rfl

theorem quotS_le (f : Nat) : ∀ (r : List UInt8) (o p : Int) (q : List UInt8) (n : Nat), quotS f r o p = .ok (q, n) → n ≤ r.length := by
  induction f with
  | zero => intro r o p q n h; injection h with h; injection h with _ h; omega
  | succ f ih =>
    intro r o p q n h
    cases r with
    | nil => exact absurd h (by simp [quotS])
    | cons c r =>
      have two : ∀ {o p : Int} {x : UInt8}, 2 ≤ (c :: r).length → (quotS f (r.drop 1) o p).map (fun q => (x :: q.1, q.2 + 2)) = .ok (q, n) → n ≤ (c :: r).length := by
        intro o p x h2 h
        cases hq : quotS f (r.drop 1) o p with
        | error e => rw [hq] at h; cases h
        | ok v =>
          rw [hq] at h
          have := ih _ _ _ _ _ hq
          injection h with h; injection h with _ h
          rw [List.length_drop] at this
          simp only [List.length_cons] at h2 ⊢
          omega
      simp only [quotS] at h
      split at h
      · injection h with h; injection h with _ h; simp; omega
      · split at h
        · rename_i h1 h2
          have : pk (c :: r) 1 ≠ 0 := by
            by_cases h3 : pk (c :: r) 1 = 39
            · rw [h3]; decide
            · exact absurd ⟨h2, h3⟩ h1
          exact two (by have := pk_len _ _ this; omega) h
        · split at h
          · cases hq : quotS f r o (p + 1) with
            | error e => rw [hq] at h; cases h
            | ok v =>
              rw [hq] at h
              have := ih _ _ _ _ _ hq
              injection h with h; injection h with _ h
              simp only [List.length_cons]
              omega
          · split at h
            · split at h
              · cases h
              · cases h
              · rename_i x hx
                exact two (escS_len _ _ hx) h
            · cases h

theorem numS_pos (r : List UInt8) (p : Int) (x : Int) (n : Nat) (hd : digitB (n8 (r.getD 0 0)) = true) (h : numS r p = .ok (x, n)) : 1 ≤ n := by
  unfold numS at h
  split at h
  · unfold codeS at h
    simp only at h
    split at h
    · cases h
    · split at h
      · split at h
        · cases h
        · cases h
        · injection h with h; injection h with _ h; omega
      · split at h
        · cases h
        · split at h
          · injection h with h; injection h with _ h; omega
          · injection h with h; injection h with _ h; omega
  · simp only at h
    split at h
    · cases h
    · injection h with h; injection h with _ h
      cases r with
      | nil => exact absurd hd (by decide)
      | cons c r =>
        simp only [List.getD_cons_zero] at hd
        simp only [runS] at h
        rw [if_pos hd] at h
        omega

theorem tokS_len (r : List UInt8) (p : Int) (t : Tok) (m : Nat) (hr : r ≠ []) (hs : ¬ (pk r 0 = 47 ∧ pk r 1 = 42)) (h : tokS r p = .ok (t, m)) : 1 ≤ m ∧ m ≤ r.length := by
  obtain ⟨c, r', rfl⟩ := List.exists_cons_of_ne_nil hr
  unfold tokS at h
  simp only [List.getD_cons_zero] at h
  have one : (1 : Nat) ≤ (c :: r').length := by simp
  have run : letterB (n8 c) = true → 1 ≤ runS letterB (c :: r') := by
    intro hl
    simp only [runS]
    rw [if_pos hl]
    omega
  split at h
  · rename_i hs
    injection h with h; injection h with _ h
    subst h
    exact ⟨run (by simp [letterB, hs]), runS_le _ _⟩
  split at h
  · rename_i hs
    injection h with h; injection h with _ h
    subst h
    exact ⟨run (by simp [letterB, hs]), runS_le _ _⟩
  split at h
  · rename_i hs
    cases hq : numS (c :: r') p with
    | error e => rw [hq] at h; cases h
    | ok v =>
      rw [hq] at h
      obtain ⟨x, n⟩ := v
      injection h with h; injection h with _ h
      subst h
      exact ⟨numS_pos _ _ _ _ (by simpa using hs) hq, numS_le _ _ _ _ hq⟩
  split at h
  · injection h with h; injection h with _ h; subst h; exact ⟨Nat.le_refl _, one⟩
  split at h
  · injection h with h; injection h with _ h; subst h; exact ⟨Nat.le_refl _, one⟩
  split at h
  · cases hq : quotS ((c :: r').length + 1) ((c :: r').drop 1) p (p + 1) with
    | error e => rw [hq] at h; cases h
    | ok v =>
      rw [hq] at h
      obtain ⟨x, n⟩ := v
      injection h with h; injection h with _ h
      subst h
      have := quotS_le _ _ _ _ _ _ hq
      rw [List.length_drop] at this
      simp only [List.length_cons] at this ⊢
      omega
  split at h
  · injection h with h; injection h with _ h; subst h; exact ⟨Nat.le_refl _, one⟩
  split at h
  · rename_i h1 h2 h3 h4 h5 h6 h7 hsg
    injection h with h; injection h with _ h
    subst h
    refine ⟨?_, symS_le _⟩
    simp only [symS]
    have hn : (n8 c == 47 && pk (c :: r') 1 == 42) = false := by
      cases hb : (n8 c == 47 && pk (c :: r') 1 == 42) with
      | false => rfl
      | true =>
        simp only [Bool.and_eq_true, beq_iff_eq] at hb
        exact absurd hb hs
    rw [hn, hsg]
    simp
  · cases h

theorem skipS_stop (f : Nat) : ∀ (r : List UInt8) (u : Unit) (n : Nat), r.length < f → skipS f r = .ok (u, n) → n ≤ r.length ∧ ¬ (pk (r.drop n) 0 = 47 ∧ pk (r.drop n) 1 = 42) := by
  induction f with
  | zero => intro r u n hl; omega
  | succ f ih =>
    intro r u n hl h
    cases r with
    | nil =>
      injection h with h; injection h with _ h; subst h
      exact ⟨Nat.le_refl _, by decide⟩
    | cons c r =>
      have go : ∀ k, 1 ≤ k → k ≤ (c :: r).length → shiftE k (skipS f ((c :: r).drop k)) = .ok (u, n) → n ≤ (c :: r).length ∧ ¬ (pk ((c :: r).drop n) 0 = 47 ∧ pk ((c :: r).drop n) 1 = 42) := by
        intro k h1 h2 h
        cases hq : skipS f ((c :: r).drop k) with
        | error e => rw [hq] at h; cases h
        | ok v =>
          rw [hq] at h
          obtain ⟨u', m⟩ := v
          injection h with h; injection h with _ h
          have := ih _ _ _ (by rw [List.length_drop]; omega) hq
          rw [List.length_drop, List.drop_drop, show k + m = n from by omega] at this
          exact ⟨by omega, this.2⟩
      simp only [skipS] at h
      split at h
      · exact go 1 (by omega) (by simp) h
      · split at h
        · rename_i h37
          have hle := runS_le (fun x => x != 10) (c :: r)
          have hge : 1 ≤ runS (fun x => x != 10) (c :: r) := by
            simp only [runS]
            rw [h37, if_pos (by decide)]
            omega
          exact go _ hge hle h
        · split at h
          · rename_i h1 h2
            split at h
            · cases h
            · rename_i hz
              have hroom := index_room _ _ rfl (Int.not_lt.1 hz)
              rw [List.length_drop] at hroom
              exact go _ (by omega) (by simp only [List.length_cons]; omega) h
          · rename_i h1 h2 h3
            injection h with h; injection h with _ h; subst h
            exact ⟨Nat.zero_le _, h3⟩

def ToksPost (w : World) (r : Except (Int × Int) (List Tok)) (e : Ending) (w' : World) : Prop :=
  match r with
  | .ok ts => ∃ v, e = .returned (.tuple #[v, .nilIface]) ∧ Kd.R kTok 139 w' w.heap.size (fun k => w.heap.size ≤ k) v ts ∧ Stay w w' (fun _ => False)
  | .error (c, a) => ∃ ev, e = .returned (.tuple #[.slice none 0 0, ev]) ∧ Fault w.heap.size ev c a w' ∧ Stay w w' (fun _ => False)

theorem toksS_at (f : Nat) (s : ByteArray) (k : Nat) (fst : Bool) : toksS (f + 1) (rest s k) (k : Int) fst =
    match skipS ((rest s k).length + 1) (rest s k) with
    | .error e => .error (81, ((k + e : Nat) : Int))
    | .ok (_, n) =>
      if s.size ≤ k + n then .ok []
      else match tokS (rest s (k + n)) ((k + n : Nat) : Int) with
        | .error e => .error e
        | .ok (t, m) =>
          if (t.kind = 1 ∨ t.kind = 2) ∧ 64 < t.text.size then .error (2, t.pos)
          else (toksS f (rest s (k + n + m)) ((k + n + m : Nat) : Int) false).map fun ts => { t with apart := decide (0 < n) || fst } :: ts := by
  rw [toksS]
  cases skipS ((rest s k).length + 1) (rest s k) with
  | error e => simp
  | ok v =>
    obtain ⟨u, n⟩ := v
    simp only [rest_drop]
    have e1 : ((k + n : Nat) : Int) = (k : Int) + n := by omega
    rw [e1]
    by_cases hk : s.size ≤ k + n
    · rw [if_pos (rest_nil s _ hk), if_pos hk]
    · rw [if_neg (by rw [rest_cons s _ (by omega)]; simp), if_neg hk]
      cases tokS (rest s (k + n)) ((k : Int) + n) with
      | error e => rfl
      | ok v =>
        obtain ⟨t, m⟩ := v
        simp only
        have e2 : ((k + n + m : Nat) : Int) = (k : Int) + n + m := by omega
        rw [e2]

theorem alloc2_new (w : World) (o o' : Obj) : ((w.alloc o).alloc o').heap[w.heap.size + 1]? = some o' := by
  have h := heap_alloc_new (w.alloc o) o'
  rwa [show (w.alloc o).heap.size = w.heap.size + 1 from by simp] at h
theorem wp_cap {P : Program} {c : Code} {Q : Exit → Act → World → Prop} {a : Act} {w : World} (F : World → Prop) (h : F w) (k : ∀ W, F W → c.wp P Q a W) : c.wp P Q a w := k w h

structure TLoop (b : Nat) (s : ByteArray) (R : Except (Int × Int) (List Tok)) (w : World) (x : Value) (wr : World) : Prop where
  ex : ∃ (k f : Nat) (fst : Bool) (v : Value) (acc : List Tok), x = .bool fst ∧ Scan b s k v wr ∧ Kd.R kTok 139 wr w.heap.size (fun j => j ≠ b) v acc ∧ k ≤ s.size ∧ acc.length ≤ k ∧ s.size - k < f ∧
    R = (toksS f (rest s k) k fst).map (fun ts => acc ++ ts)
  st : Stay w wr (fun _ => False)

set_option maxHeartbeats 4000000 in
set_option maxRecDepth 100000 in
theorem tokens_any (s : ByteArray) (w : World) (hG : RangeVar w) (hM : MaxVar w) (hbg : 9 ≤ w.heap.size) :
    Calls Tryz.prog 47 #[.string s] w (ToksPost w (tokensS s)) := by
  have HG := hide hG
  have HM := hide hM
  clear hG hM
  by_cases hm : s.size ≤ 16384
  · have hR : tokensS s = (toksS (s.size + 1) (rest s 0) ((0 : Nat) : Int) true).map (fun ts => [] ++ ts) := by
      unfold tokensS
      rw [if_neg (by omega)]
      show toksS (s.size + 1) (rest s 0) 0 true = _
      cases toksS (s.size + 1) (rest s 0) 0 true <;> rfl
    generalize tokensS s = R at hR ⊢
    have HR := hide hR
    clear hR
    go_enter Tryz.func47, Tryz.ntmps47
    go_wp2_with fail
    go_loopw [5] (fun x wr => TLoop w.heap.size s R w x wr) (fun _ wr => match wr.cell? ⟨w.heap.size, 1, none⟩ with | some (.int _ n) => s.size - n.toNat | _ => 0)
    case atStart => exact ⟨⟨0, s.size + 1, true, _, [], rfl, heap_alloc_new _ _, Kd.R_nil _ _ _ _ _, Nat.zero_le _, by simp, by omega, HR.out⟩, (Stay.refl _ _).alloc _⟩
    case round =>
      obtain ⟨⟨k, f, fst, v, acc, rfl, hk, hro, hks, hac, hf, hRk⟩, hst⟩ := hrel
      obtain ⟨f, rfl⟩ : ∃ m, f = m + 1 := ⟨f - 1, by omega⟩
      rw [toksS_at] at hRk
      have HRk := hide hRk
      have Hst := hide hst
      have Hk := hide hk
      have Hro := hide hro
      have HMr := hide (HM.out.stay hst (fun e => e))
      have HGr := hide (HG.out.stay hst (fun e => e))
      have Hl := hide (rest_length s k)
      clear hRk hst HR hk hro
      go_wp2_with fail
      refine (skip_any w.heap.size k s v _ Hk.out hm hks HMr.out hbg ((rest s k).length + 1) (by rw [Hl.out]; omega)).mono ?_
      intro e w1 h1
      have Hstop := hide (skipS_stop ((rest s k).length + 1) (rest s k))
      generalize skipS ((rest s k).length + 1) (rest s k) = sk at HRk h1 Hstop
      cases sk with
      | error er =>
        obtain ⟨ev, rfl, hfa, hs1⟩ := h1
        obtain ⟨fb, hN, rfl, hfb⟩ := hfa
        go_wp2_with fail
        go_ret2
        rw [HRk.out]
        exact ⟨_, rfl, ⟨fb, Nat.le_trans Hst.out.size hN, rfl, hfb⟩, Hst.out.trans hs1 (fun _ h e => by omega)⟩
      | ok vv =>
        obtain ⟨u, n⟩ := vv
        obtain ⟨rfl, hk1, hle1, hs1⟩ := h1
        have hst1 := Hst.out.trans hs1 (S := fun _ => False) (fun _ h e => by omega)
        have hro1 := Kd.R_step Hro.out (fun j hj hl => hs1.block j hl hj)
        have hst2 := (Hstop.out u n (Nat.lt_succ_self _) rfl).2
        rw [rest_drop] at hst2
        simp only at HRk
        have Hnc := hide hst2
        have Hst1 := hide hst1
        have Hro1 := hide hro1
        have Hk1 := hide hk1
        clear hst2 hst1 hro1 hk1 hs1 Hstop
        have hap : Value.bool (decide (0 < n)) = Value.bool (decide (0 < n)) := rfl
        generalize decide (0 < n) = apt at HRk hap
        clear hap
        go_wp2_with fail
        by_cases hen : s.size ≤ k + n
        · refine (ended_yes w.heap.size (k + n) s v _ Hk1.out hen).mono ?_
          rintro e w2 ⟨rfl, hq2⟩
          rw [if_pos hen] at HRk
          have hk2 := Hk1.out.stay (hq2.stay (fun _ => False)) (fun e => e)
          have c2 := hk2.c2
          have hro2 := Kd.R_step Hro1.out (fun j hj hl => (hq2.stay (fun _ => False)).block j hl (fun e => e))
          obtain ⟨A, cc, rfl⟩ := Kd.R_slice hro2
          have Hro2 := hide hro2
          have Hst2 := hide (Hst1.out.trans (hq2.stay (fun _ => False)) (fun _ _ h => h))
          clear hk2 hro2 hq2
          go_wp2_with fail
          go_ret2
          rw [HRk.out]
          refine ⟨_, rfl, (?_ : Kd.R kTok 139 w2 w.heap.size (fun k => w.heap.size ≤ k) (.slice A acc.length cc) (acc ++ [])), Hst2.out⟩
          rw [List.append_nil]
          exact Kd.R_mono (Kd.R_bound Hro2.out) (fun j hj => hj.2.1)
        · refine (ended_no w.heap.size (k + n) s v _ Hk1.out (by omega)).mono ?_
          rintro e w2 ⟨rfl, hq2⟩
          rw [if_neg hen] at HRk
          have hk2 := Hk1.out.stay (hq2.stay (fun _ => False)) (fun e => e)
          have hro2 := Kd.R_step Hro1.out (fun j hj hl => (hq2.stay (fun _ => False)).block j hl (fun e => e))
          have hst2 := Hst1.out.trans (hq2.stay (fun _ => False)) (S := fun _ => False) (fun _ _ h => h)
          have hG2 := HG.out.stay hst2 (fun e => e)
          have Hro2 := hide hro2
          have Hst2 := hide hst2
          clear hro2 hq2 hst2 Hro1 Hst1 Hk1 Hro Hst HMr HGr
          go_wp2_with fail
          refine (token_any w.heap.size (k + n) s v _ hk2 hm (by omega) hG2 hbg).mono ?_
          have Hlen := hide (tokS_len (rest s (k + n)) ((k + n : Nat) : Int))
          generalize tokS (rest s (k + n)) ((k + n : Nat) : Int) = tk at HRk Hlen
          intro e w3 h3
          cases tk with
          | error er =>
            obtain ⟨c, a⟩ := er
            obtain ⟨ev, ⟨kd, tx, ti, tp, tq, ta⟩, rfl, hfa, hs3⟩ := h3
            obtain ⟨fb, hN, rfl, hfb⟩ := hfa
            rw [show tokV ⟨kd, tx, ti, tp, tq, ta⟩ = .agg #[.int .i64 kd, .string tx, .int .i64 ti, .int .i64 tp, .bool tq, .bool ta] from rfl]
            have hst3 := Hst2.out.trans hs3 (S := fun _ => False) (fun _ h e => by omega)
            have Hst3 := hide hst3
            have Hfb := hide hfb
            have hsz3 := Hst2.out.size
            have hlt3 := lt_of hfb
            clear hst3 hs3 hfb
            go_wp2_with fail
            go_ret2
            rw [HRk.out]
            exact ⟨_, rfl, ⟨fb, Nat.le_trans hsz3 hN, rfl, (Below.heap_alloc w3 _ _ hlt3).trans Hfb.out⟩, Hst3.out.alloc _⟩
          | ok tm =>
            obtain ⟨t, m⟩ := tm
            obtain ⟨rfl, hk3, hs3⟩ := h3
            have hro3 := Kd.R_step Hro2.out (fun j hj hl => hs3.block j hl hj)
            have hst3 := Hst2.out.trans hs3 (S := fun _ => False) (fun _ h e => by omega)
            simp only at HRk
            have hne : rest s (k + n) ≠ [] := by rw [rest_cons s _ (by omega)]; simp
            obtain ⟨hm1, hm2⟩ := Hlen.out t m hne Hnc.out rfl
            rw [rest_length] at hm2
            obtain ⟨kd, tx, ti, tp, tq, ta⟩ := t
            rw [show tokV ⟨kd, tx, ti, tp, tq, ta⟩ = .agg #[.int .i64 kd, .string tx, .int .i64 ti, .int .i64 tp, .bool tq, .bool ta] from rfl]
            have Hk3 := hide hk3
            have Hro3 := hide hro3
            have Hst3 := hide hst3
            clear hk3 hro3 hst3 Hro2 Hst2 hs3 hk2 hG2 Hlen Hnc hne
            go_wp2_with fail
            all_goals try (
              refine (new_any 2 _ (by decide) _).mono ?_
              rintro e w4 ⟨q, rfl, rfl, rfl⟩
              rw [if_pos (by omega)] at HRk
              go_wp2_with fail
              go_ret2
              rw [HRk.out]
              exact ⟨_, rfl, ⟨w3.heap.size + 1, Nat.le_trans Hst3.out.size (by simp), rfl, alloc2_new w3 _ _⟩, (Hst3.out.alloc _).alloc _⟩)
            all_goals
              rw [if_neg (by omega)] at HRk
              refine wp_cap (fun W => ∃ kd0 ap0, W.heap[w3.heap.size]? = some (.cells #[.int .i64 kd0, .string tx, .int .i64 ti, .int .i64 tp, .bool tq, .bool ap0] 139 (0, 0)) ∧ Stay w3 W (fun _ => False) ∧
                R = (toksS f (rest s (k + n + m)) ((k + n + m : Nat) : Int) false).map (fun ts => (acc ++ [⟨kd0, tx, ti, tp, tq, ap0⟩]) ++ ts)) ⟨_, _, heap_alloc_new _ _, (Stay.refl _ _).alloc _, ?_⟩ ?_
              · rw [HRk.out]
                cases toksS f (rest s (k + n + m)) ((k + n + m : Nat) : Int) false <;> simp [Except.map, *]
              · rintro W ⟨kd0, ap0, hblk, hsW, hR⟩
                have HRn := hide hR
                have hkW := Hk3.out.stay hsW (fun e => e)
                have hroW := Kd.R_step Hro3.out (fun j hj hl => hsW.block j hl (fun e => e))
                have hstW := Hst3.out.trans hsW (S := fun _ => False) (fun _ _ h => h)
                have c2 := hkW.c2
                have f2 := hkW.fr 2
                have u0 : W.cell? ⟨w3.heap.size, 0, none⟩ = _ := cell_of hblk 0 _ rfl
                have u1 : W.cell? ⟨w3.heap.size, 1, none⟩ = _ := cell_of hblk 1 _ rfl
                have u2 : W.cell? ⟨w3.heap.size, 2, none⟩ = _ := cell_of hblk 2 _ rfl
                have u3 : W.cell? ⟨w3.heap.size, 3, none⟩ = _ := cell_of hblk 3 _ rfl
                have u4 : W.cell? ⟨w3.heap.size, 4, none⟩ = _ := cell_of hblk 4 _ rfl
                have u5 : W.cell? ⟨w3.heap.size, 5, none⟩ = _ := cell_of hblk 5 _ rfl
                have hltW : w3.heap.size < W.heap.size := lt_of hblk
                have hlt3 : w.heap.size < w3.heap.size := Hk3.out.lt
                have hltb : w.heap.size < W.heap.size := by omega
                have hnb : some w.heap.size ≠ v.ownBlock := Kd.R_away Hro3.out (fun j hj => hj)
                have hnq : some w3.heap.size ≠ v.ownBlock := fun e => by have := Kd.R_lt Hro3.out _ e.symm; omega
                have HB : Hid (Below w.heap.size w W) := hide (hstW.below (fun _ _ e => e))
                have HroW := hide hroW
                have HkW := hide hkW
                have HstW := hide hstW
                have Hnb := hide hnb
                have Hnq := hide hnq
                clear hR hkW hroW hstW hblk hsW hnb hnq HRk
                go_region_law ((refine Kd.R_append_step kTok (w0 := w) (W := W.drew) w.heap.size (by rfl) (.tmp 64) (.tmp 66) 82 139 (.agg #[.int .i64 0, .string ⟨#[]⟩, .int .i64 0, .int .i64 0, .bool false, .bool false]) 48 (by rfl) Tryz.underlying82 (by kernel_rfl) rfl (by decide) (by decide) v acc ⟨kd0, tx, ti, tp, tq, ap0⟩ _ (fun j => j ≠ w.heap.size) (fun _ => False) (by rfl) (by rfl) (kTok_mkM _ _ _ _) (fun _ h => h.elim) (fun j hj => by have : W.heap.size ≤ j := hj; omega) (Kd.R_drew HroW.out) (below_drew HB.out) (Nat.le_of_lt (Nat.lt_trans hlt3 hltW)) (by omega) ?_; intro v1 w1 hR1 hB1 hg1 hat1; have k2 := (hg1.cell_far ⟨w.heap.size, 2, none⟩ (show w.heap.size < W.heap.size from by omega) Hnb.out).trans c2; have kf := (hg1.frozen_far ⟨w.heap.size, 2, none⟩ (show w.heap.size < W.heap.size from by omega) Hnb.out).trans f2; obtain ⟨A1, cc1, rfl⟩ := Kd.R_slice hR1))
                all_goals
                  have hst1 : Stay w (w1.setCell ⟨w.heap.size, 2, none⟩ (.slice A1 (acc.length + 1) cc1)) (fun _ => False) := (Stay.of_below hB1 _).setCell _ _ (fun h => absurd h (Nat.lt_irrefl _))
                  have hkb : w1.heap[w.heap.size]? = W.heap[w.heap.size]? := hg1.block _ (show w.heap.size < W.heap.size from by omega) Hnb.out
                  have hk1 : Scan w.heap.size s (k + n + m) v w1 := hkb.trans HkW.out
                  have hk2 : Scan w.heap.size s (k + n + m) (.slice A1 (acc.length + 1) cc1) (w1.setCell ⟨w.heap.size, 2, none⟩ (.slice A1 (acc.length + 1) cc1)) := set_of hk1 2 _
                  have hR2 := Kd.R_step hR1 (w1 := w1.setCell ⟨w.heap.size, 2, none⟩ (.slice A1 (acc.length + 1) cc1)) (fun j hj _ => Below.heap_setCell w1 _ _ j hj)
                  rw [show (acc ++ [(⟨kd0, tx, ti, tp, tq, ap0⟩ : Tok)]).length = acc.length + 1 from by simp] at hR2
                  have HR2 := hide hR2
                  have Hk2 := hide hk2
                  have Hst1 := hide hst1
                  clear hR1 hB1 hg1 hat1 k2 kf hst1 hkb hk1 hk2 hR2 c2 f2 u0 u1 u2 u3 u4 u5
                  go_wp2_with fail
                  go_roundw
                  case rel => exact ⟨⟨k + n + m, f, false, _, acc ++ [⟨kd0, tx, ti, tp, tq, ap0⟩], rfl, Hk2.out, HR2.out, by omega, by rw [List.length_append, List.length_singleton]; omega, by omega, HRn.out⟩, Hst1.out⟩
                  case measure => have cwr := Hk.out.c1; have c2' := Hk2.out.c1; go_simp; omega
  · have hR : tokensS s = .error (2, 0) := by unfold tokensS; rw [if_pos (by omega)]
    rw [hR]
    clear hR
    go_enter Tryz.func47, Tryz.ntmps47
    go_wp2_with fail
    refine (new_any 2 _ (by decide) _).mono ?_
    rintro e w4 ⟨q, rfl, rfl, rfl⟩
    go_wp2_with fail
    go_ret2
    exact ⟨_, rfl, ⟨_, Nat.le_refl _, rfl, heap_alloc_new _ _⟩, (Stay.refl _ _).alloc _⟩
end Go.Proofs.YtgidbplaoijalaaGreatRDoor
