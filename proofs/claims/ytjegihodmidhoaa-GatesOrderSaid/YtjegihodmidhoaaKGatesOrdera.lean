/- A part of the proof of: GatesOrder: of two gates of a network the lesser one is of an earlier layer, place or term: for every input the law returns true, and its arguments read as they did. -/
import Derived.Test.YtjegihodmidhoaaProg
import Derived.Below
import Derived.Deep.Draws
import Derived.Deep.AppendLies
import Derived.Maps.AppendAt
import Derived.OwnWalk
import Derived.Laws.BytesArg
import Derived.Laws.MakeOwn
import Derived.Laws.OwnMore
import Derived.Deep.OwnRows
import Derived.Tactics
import Derived.Lib.ConvBytes
import Derived.Laws.Slices
import Derived.WalkKit
import Derived.KernelRfl
import Derived.RowKit3
import Derived.Deep.LoopGhost
import Derived.Deep.QuietTactic
import Derived.BigQuiet
import Derived.WideLaws
import Derived.Deep.DeepCutAuto
import Derived.Deep.CutBlock
import Derived.Deep.RegionHeld3
import Derived.Laws.Rows
import Derived.Lib.AppendStr
import Derived.ArgAppend
import Derived.Laws.IdiomCopy
import Derived.OrdersHeld
import Derived.Laws.BitsLemmas
import Derived.RowKit
import Derived.Test.YtjegihodmidhoaaWWords
import Derived.Test.YtjegihodmidhoaaWLast
import Derived.Test.YtjegihodmidhoaaWTab
import Derived.Test.YtjegihodmidhoaaWQPut
import Derived.Test.YtjegihodmidhoaaWApart
import Derived.Test.YtjegihodmidhoaaWArr
import Derived.Test.YtjegihodmidhoaaWZeros
import Derived.Test.YtjegihodmidhoaaWFoot
import Derived.Test.YtjegihodmidhoaaWKept
import Derived.Test.YtjegihodmidhoaaWShare
import Derived.Test.YtjegihodmidhoaaWN
import Derived.Test.YtjegihodmidhoaaWEqStruct
import Derived.Test.YtjegihodmidhoaaWRepsOne
import Derived.Test.YtjegihodmidhoaaWGuard
import Derived.Test.YtjegihodmidhoaaWNEv
import Derived.Test.YtjegihodmidhoaaWMore
import Derived.Deep.Slices
import Derived.ChangeArms
import Derived.WideShapes
import Derived.StillTailTactics
import Derived.Deep.RegionWith
import Derived.Recover
import Derived.Defers
import Derived.Deep.RegionLaw
import Derived.Deep.CutRange
namespace Go.Proofs.Ytjegihodmidhoaa.G
open Go.RowKit Go.Proofs.YtjegihodmidhoaaW.PrintWords Go.Proofs.YtjegihodmidhoaaW.PrintLast Go.Proofs.YtjegihodmidhoaaW.PrintMore
attribute [local go_sem] max2_int min2_int max_two min_two max_three min_three max_four min_four   -- for this text's walks alone
set_option linter.unusedVariables false
set_option linter.unusedSimpArgs false



def errW : Option Int → Value
  | none => .nilIface
  | some c => .iface 0 (.int .i64 c)
theorem errW_none : errW none = .nilIface := rfl
theorem errW_some (c : Int) : errW (some c) = .iface 0 (.int .i64 c) := rfl

theorem info3 : (Try.prog.info? 3).map (fun i => (i.zero, i.size, i.bytes)) = some (some (.int .i64 0), 1, 8) := by kernel_rfl
theorem info23 : (Try.prog.info? 23).map (fun i => (i.zero, i.size, i.bytes)) = some (some (.agg #[(.int .i64 0), (.int .i64 0), (.int .i64 0)]), 3, 24) := by kernel_rfl
theorem info63 : (Try.prog.info? 63).map (fun i => (i.zero, i.size, i.bytes)) = some (some (.agg #[(.int .i64 0), (.int .i64 0), (.int .i64 0), (.int .i64 0)]), 4, 32) := by kernel_rfl
theorem info91 : (Try.prog.info? 91).map (fun i => (i.zero, i.size, i.bytes)) = some (some (.agg #[(.int .i64 0), (.int .i64 0)]), 2, 16) := by kernel_rfl
-- the values' own types
/-! #### struct type 23 -/
structure S23 where
  f0 : Int
  f1 : Int
  f2 : Int
def z23 : S23 := ⟨(0 : Int), (0 : Int), (0 : Int)⟩
def k23 : Kd S23 := Kd.iso (Kd.pair (Kd.int .i64) (Kd.pair (Kd.int .i64) (Kd.int .i64))) (fun x : S23 => (x.f0, x.f1, x.f2))
theorem k23_open {w : World} {x : S23} {cs : List Value} (h : k23.K w x cs) : cs = [.int .i64 x.f0, .int .i64 x.f1, .int .i64 x.f2] := by
  obtain ⟨_, _, rfl, rfl, ⟨_, _, rfl, rfl, rfl⟩⟩ := h
  exact rfl
theorem k23_openM {w : World} {base : Nat} {ok : Nat → Prop} {x : S23} {cs : List Value} (h : k23.M w base ok x cs) : cs = [.int .i64 x.f0, .int .i64 x.f1, .int .i64 x.f2] := by
  obtain ⟨_, _, rfl, rfl, ⟨_, _, rfl, rfl, rfl⟩⟩ := h
  exact rfl
theorem k23_mk (w : World) (x : S23)  : k23.K w x [.int .i64 x.f0, .int .i64 x.f1, .int .i64 x.f2] := ⟨[.int .i64 x.f0], [.int .i64 x.f1, .int .i64 x.f2], rfl, rfl, ⟨[.int .i64 x.f1], [.int .i64 x.f2], rfl, rfl, rfl⟩⟩
theorem k23_mkM (w : World) (base : Nat) (ok : Nat → Prop) (x : S23)  : k23.M w base ok x [.int .i64 x.f0, .int .i64 x.f1, .int .i64 x.f2] := ⟨[.int .i64 x.f0], [.int .i64 x.f1, .int .i64 x.f2], rfl, rfl, ⟨[.int .i64 x.f1], [.int .i64 x.f2], rfl, rfl, rfl⟩⟩
def rd_T23 (xs : List S23) (i : Int) : S23 := xs.getD i.toNat z23
theorem at_T23 {w : World} {A : Option Addr} {n : Nat} {xs : List S23} (h : Kd.C k23 w A n xs) (i : Int) (h0 : 0 ≤ i) (h1 : i < n) : ∃ ad , A = some ad ∧ w.cell? (ad.add (i.toNat * 3)) = some (.int .i64 (rd_T23 xs i).f0) ∧ w.cell? ⟨(ad.add (i.toNat * 3)).block, (ad.add (i.toNat * 3)).off + 1, none⟩ = some (.int .i64 (rd_T23 xs i).f1) ∧ w.cell? ⟨(ad.add (i.toNat * 3)).block, (ad.add (i.toNat * 3)).off + 2, none⟩ = some (.int .i64 (rd_T23 xs i).f2) := by
  obtain ⟨ad, c, e, _, hK, hc0⟩ := Kd.C_get h z23 i h0 h1
  have hc : ∀ j u, c[j]? = some u → w.cell? (ad.add (i.toNat * 3 + j)) = some u := hc0
  obtain rfl := k23_open hK
  exact ⟨ad, e, hc 0 _ rfl, by rw [← add_field _ _ 1 (by omega)]; exact hc 1 _ rfl, by rw [← add_field _ _ 2 (by omega)]; exact hc 2 _ rfl⟩

/-! #### struct type 63 -/
structure S63 where
  f0 : Int
  f1 : Int
  f2 : Int
  f3 : Int
def z63 : S63 := ⟨(0 : Int), (0 : Int), (0 : Int), (0 : Int)⟩
def k63 : Kd S63 := Kd.iso (Kd.pair (Kd.int .i64) (Kd.pair (Kd.int .i64) (Kd.pair (Kd.int .i64) (Kd.int .i64)))) (fun x : S63 => (x.f0, x.f1, x.f2, x.f3))
theorem k63_open {w : World} {x : S63} {cs : List Value} (h : k63.K w x cs) : cs = [.int .i64 x.f0, .int .i64 x.f1, .int .i64 x.f2, .int .i64 x.f3] := by
  obtain ⟨_, _, rfl, rfl, ⟨_, _, rfl, rfl, ⟨_, _, rfl, rfl, rfl⟩⟩⟩ := h
  exact rfl
theorem k63_openM {w : World} {base : Nat} {ok : Nat → Prop} {x : S63} {cs : List Value} (h : k63.M w base ok x cs) : cs = [.int .i64 x.f0, .int .i64 x.f1, .int .i64 x.f2, .int .i64 x.f3] := by
  obtain ⟨_, _, rfl, rfl, ⟨_, _, rfl, rfl, ⟨_, _, rfl, rfl, rfl⟩⟩⟩ := h
  exact rfl
theorem k63_mk (w : World) (x : S63)  : k63.K w x [.int .i64 x.f0, .int .i64 x.f1, .int .i64 x.f2, .int .i64 x.f3] := ⟨[.int .i64 x.f0], [.int .i64 x.f1, .int .i64 x.f2, .int .i64 x.f3], rfl, rfl, ⟨[.int .i64 x.f1], [.int .i64 x.f2, .int .i64 x.f3], rfl, rfl, ⟨[.int .i64 x.f2], [.int .i64 x.f3], rfl, rfl, rfl⟩⟩⟩
theorem k63_mkM (w : World) (base : Nat) (ok : Nat → Prop) (x : S63)  : k63.M w base ok x [.int .i64 x.f0, .int .i64 x.f1, .int .i64 x.f2, .int .i64 x.f3] := ⟨[.int .i64 x.f0], [.int .i64 x.f1, .int .i64 x.f2, .int .i64 x.f3], rfl, rfl, ⟨[.int .i64 x.f1], [.int .i64 x.f2, .int .i64 x.f3], rfl, rfl, ⟨[.int .i64 x.f2], [.int .i64 x.f3], rfl, rfl, rfl⟩⟩⟩
def rd_T63 (xs : List S63) (i : Int) : S63 := xs.getD i.toNat z63
theorem at_T63 {w : World} {A : Option Addr} {n : Nat} {xs : List S63} (h : Kd.C k63 w A n xs) (i : Int) (h0 : 0 ≤ i) (h1 : i < n) : ∃ ad , A = some ad ∧ w.cell? (ad.add (i.toNat * 4)) = some (.int .i64 (rd_T63 xs i).f0) ∧ w.cell? ⟨(ad.add (i.toNat * 4)).block, (ad.add (i.toNat * 4)).off + 1, none⟩ = some (.int .i64 (rd_T63 xs i).f1) ∧ w.cell? ⟨(ad.add (i.toNat * 4)).block, (ad.add (i.toNat * 4)).off + 2, none⟩ = some (.int .i64 (rd_T63 xs i).f2) ∧ w.cell? ⟨(ad.add (i.toNat * 4)).block, (ad.add (i.toNat * 4)).off + 3, none⟩ = some (.int .i64 (rd_T63 xs i).f3) := by
  obtain ⟨ad, c, e, _, hK, hc0⟩ := Kd.C_get h z63 i h0 h1
  have hc : ∀ j u, c[j]? = some u → w.cell? (ad.add (i.toNat * 4 + j)) = some u := hc0
  obtain rfl := k63_open hK
  exact ⟨ad, e, hc 0 _ rfl, by rw [← add_field _ _ 1 (by omega)]; exact hc 1 _ rfl, by rw [← add_field _ _ 2 (by omega)]; exact hc 2 _ rfl, by rw [← add_field _ _ 3 (by omega)]; exact hc 3 _ rfl⟩

def rd_L3 (xs : List (List S63)) (i : Int) : (List S63) := xs.getD i.toNat ([] : List S63)
theorem at_L3 {w : World} {A : Option Addr} {n : Nat} {xs : List (List S63)} (h : Kd.C (Kd.slice 63 k63) w A n xs) (i : Int) (h0 : 0 ≤ i) (h1 : i < n) : ∃ ad A0 c0, A = some ad ∧ w.cell? (ad.add i.toNat) = some (.slice A0 (rd_L3 xs i).length c0) ∧ (rd_L3 xs i).length ≤ c0 ∧ k63.C w A0 (rd_L3 xs i).length (rd_L3 xs i) := by
  obtain ⟨ad, c, e, _, hK, hc0⟩ := Kd.C_get h ([] : List S63) i h0 h1
  have hc : ∀ j u, c[j]? = some u → w.cell? (ad.add (i.toNat * 1 + j)) = some u := hc0
  obtain ⟨A0, c0, rfl, l0, g0⟩ := hK
  exact ⟨ad, A0, c0, e, by have hq := hc 0 _ rfl; rwa [Nat.mul_one, Nat.add_zero] at hq, l0, g0⟩

/-! #### struct type 26 -/
structure S26 where
  f0 : S23
  f1 : (List S63)
def z26 : S26 := ⟨z23, ([] : List S63)⟩
def k26 : Kd S26 := Kd.iso (Kd.pair k23 (Kd.slice 63 k63)) (fun x : S26 => (x.f0, x.f1))
theorem k26_open {w : World} {x : S26} {cs : List Value} (h : k26.K w x cs) : ∃ A3 c3, cs = [.int .i64 x.f0.f0, .int .i64 x.f0.f1, .int .i64 x.f0.f2, .slice A3 x.f1.length c3] ∧ x.f1.length ≤ c3 ∧ k63.C w A3 x.f1.length x.f1 := by
  obtain ⟨_, _, rfl, s0, ⟨A3, c3, rfl, l3, g3⟩⟩ := h
  obtain rfl := k23_open s0
  exact ⟨A3, c3, rfl, l3, g3⟩
theorem k26_openM {w : World} {base : Nat} {ok : Nat → Prop} {x : S26} {cs : List Value} (h : k26.M w base ok x cs) : ∃ v3, cs = [.int .i64 x.f0.f0, .int .i64 x.f0.f1, .int .i64 x.f0.f2, v3] ∧ k63.R 63 w base ok v3 x.f1 := by
  obtain ⟨_, _, rfl, s0, ⟨v3, rfl, g3⟩⟩ := h
  obtain rfl := k23_openM s0
  exact ⟨v3, rfl, g3⟩
theorem k26_mk (w : World) (x : S26) {A3 : Option Addr} {c3 : Nat} (l3 : x.f1.length ≤ c3) (g3 : k63.C w A3 x.f1.length x.f1) : k26.K w x [.int .i64 x.f0.f0, .int .i64 x.f0.f1, .int .i64 x.f0.f2, .slice A3 x.f1.length c3] := ⟨[.int .i64 x.f0.f0, .int .i64 x.f0.f1, .int .i64 x.f0.f2], [.slice A3 x.f1.length c3], rfl, (k23_mk w x.f0 ), ⟨A3, c3, rfl, l3, g3⟩⟩
theorem k26_mkM (w : World) (base : Nat) (ok : Nat → Prop) (x : S26) {v3 : Value} (g3 : k63.R 63 w base ok v3 x.f1) : k26.M w base ok x [.int .i64 x.f0.f0, .int .i64 x.f0.f1, .int .i64 x.f0.f2, v3] := ⟨[.int .i64 x.f0.f0, .int .i64 x.f0.f1, .int .i64 x.f0.f2], [v3], rfl, (k23_mkM w base ok x.f0 ), ⟨v3, rfl, g3⟩⟩
def rd_T26 (xs : List S26) (i : Int) : S26 := xs.getD i.toNat z26
theorem at_T26 {w : World} {A : Option Addr} {n : Nat} {xs : List S26} (h : Kd.C k26 w A n xs) (i : Int) (h0 : 0 ≤ i) (h1 : i < n) : ∃ ad A3 c3, A = some ad ∧ w.cell? (ad.add (i.toNat * 4)) = some (.int .i64 (rd_T26 xs i).f0.f0) ∧ w.cell? ⟨(ad.add (i.toNat * 4)).block, (ad.add (i.toNat * 4)).off + 1, none⟩ = some (.int .i64 (rd_T26 xs i).f0.f1) ∧ w.cell? ⟨(ad.add (i.toNat * 4)).block, (ad.add (i.toNat * 4)).off + 2, none⟩ = some (.int .i64 (rd_T26 xs i).f0.f2) ∧ w.cell? ⟨(ad.add (i.toNat * 4)).block, (ad.add (i.toNat * 4)).off + 3, none⟩ = some (.slice A3 (rd_T26 xs i).f1.length c3) ∧ (rd_T26 xs i).f1.length ≤ c3 ∧ k63.C w A3 (rd_T26 xs i).f1.length (rd_T26 xs i).f1 := by
  obtain ⟨ad, c, e, _, hK, hc0⟩ := Kd.C_get h z26 i h0 h1
  have hc : ∀ j u, c[j]? = some u → w.cell? (ad.add (i.toNat * 4 + j)) = some u := hc0
  obtain ⟨A3, c3, rfl, l3, g3⟩ := k26_open hK
  exact ⟨ad, A3, c3, e, hc 0 _ rfl, by rw [← add_field _ _ 1 (by omega)]; exact hc 1 _ rfl, by rw [← add_field _ _ 2 (by omega)]; exact hc 2 _ rfl, by rw [← add_field _ _ 3 (by omega)]; exact hc 3 _ rfl, l3, g3⟩

/-! #### struct type 96 -/
structure S96 where
  f0 : S63
  f1 : S23
  f2 : S23
  f3 : Int
  f4 : Int
def z96 : S96 := ⟨z63, z23, z23, (0 : Int), (0 : Int)⟩
def k96 : Kd S96 := Kd.iso (Kd.pair k63 (Kd.pair k23 (Kd.pair k23 (Kd.pair (Kd.int .i64) (Kd.int .i64))))) (fun x : S96 => (x.f0, x.f1, x.f2, x.f3, x.f4))
theorem k96_open {w : World} {x : S96} {cs : List Value} (h : k96.K w x cs) : cs = [.int .i64 x.f0.f0, .int .i64 x.f0.f1, .int .i64 x.f0.f2, .int .i64 x.f0.f3, .int .i64 x.f1.f0, .int .i64 x.f1.f1, .int .i64 x.f1.f2, .int .i64 x.f2.f0, .int .i64 x.f2.f1, .int .i64 x.f2.f2, .int .i64 x.f3, .int .i64 x.f4] := by
  obtain ⟨_, _, rfl, s0, ⟨_, _, rfl, s4, ⟨_, _, rfl, s7, ⟨_, _, rfl, rfl, rfl⟩⟩⟩⟩ := h
  obtain rfl := k63_open s0
  obtain rfl := k23_open s4
  obtain rfl := k23_open s7
  exact rfl
theorem k96_openM {w : World} {base : Nat} {ok : Nat → Prop} {x : S96} {cs : List Value} (h : k96.M w base ok x cs) : cs = [.int .i64 x.f0.f0, .int .i64 x.f0.f1, .int .i64 x.f0.f2, .int .i64 x.f0.f3, .int .i64 x.f1.f0, .int .i64 x.f1.f1, .int .i64 x.f1.f2, .int .i64 x.f2.f0, .int .i64 x.f2.f1, .int .i64 x.f2.f2, .int .i64 x.f3, .int .i64 x.f4] := by
  obtain ⟨_, _, rfl, s0, ⟨_, _, rfl, s4, ⟨_, _, rfl, s7, ⟨_, _, rfl, rfl, rfl⟩⟩⟩⟩ := h
  obtain rfl := k63_openM s0
  obtain rfl := k23_openM s4
  obtain rfl := k23_openM s7
  exact rfl
theorem k96_mk (w : World) (x : S96)  : k96.K w x [.int .i64 x.f0.f0, .int .i64 x.f0.f1, .int .i64 x.f0.f2, .int .i64 x.f0.f3, .int .i64 x.f1.f0, .int .i64 x.f1.f1, .int .i64 x.f1.f2, .int .i64 x.f2.f0, .int .i64 x.f2.f1, .int .i64 x.f2.f2, .int .i64 x.f3, .int .i64 x.f4] := ⟨[.int .i64 x.f0.f0, .int .i64 x.f0.f1, .int .i64 x.f0.f2, .int .i64 x.f0.f3], [.int .i64 x.f1.f0, .int .i64 x.f1.f1, .int .i64 x.f1.f2, .int .i64 x.f2.f0, .int .i64 x.f2.f1, .int .i64 x.f2.f2, .int .i64 x.f3, .int .i64 x.f4], rfl, (k63_mk w x.f0 ), ⟨[.int .i64 x.f1.f0, .int .i64 x.f1.f1, .int .i64 x.f1.f2], [.int .i64 x.f2.f0, .int .i64 x.f2.f1, .int .i64 x.f2.f2, .int .i64 x.f3, .int .i64 x.f4], rfl, (k23_mk w x.f1 ), ⟨[.int .i64 x.f2.f0, .int .i64 x.f2.f1, .int .i64 x.f2.f2], [.int .i64 x.f3, .int .i64 x.f4], rfl, (k23_mk w x.f2 ), ⟨[.int .i64 x.f3], [.int .i64 x.f4], rfl, rfl, rfl⟩⟩⟩⟩
theorem k96_mkM (w : World) (base : Nat) (ok : Nat → Prop) (x : S96)  : k96.M w base ok x [.int .i64 x.f0.f0, .int .i64 x.f0.f1, .int .i64 x.f0.f2, .int .i64 x.f0.f3, .int .i64 x.f1.f0, .int .i64 x.f1.f1, .int .i64 x.f1.f2, .int .i64 x.f2.f0, .int .i64 x.f2.f1, .int .i64 x.f2.f2, .int .i64 x.f3, .int .i64 x.f4] := ⟨[.int .i64 x.f0.f0, .int .i64 x.f0.f1, .int .i64 x.f0.f2, .int .i64 x.f0.f3], [.int .i64 x.f1.f0, .int .i64 x.f1.f1, .int .i64 x.f1.f2, .int .i64 x.f2.f0, .int .i64 x.f2.f1, .int .i64 x.f2.f2, .int .i64 x.f3, .int .i64 x.f4], rfl, (k63_mkM w base ok x.f0 ), ⟨[.int .i64 x.f1.f0, .int .i64 x.f1.f1, .int .i64 x.f1.f2], [.int .i64 x.f2.f0, .int .i64 x.f2.f1, .int .i64 x.f2.f2, .int .i64 x.f3, .int .i64 x.f4], rfl, (k23_mkM w base ok x.f1 ), ⟨[.int .i64 x.f2.f0, .int .i64 x.f2.f1, .int .i64 x.f2.f2], [.int .i64 x.f3, .int .i64 x.f4], rfl, (k23_mkM w base ok x.f2 ), ⟨[.int .i64 x.f3], [.int .i64 x.f4], rfl, rfl, rfl⟩⟩⟩⟩
def rd_T96 (xs : List S96) (i : Int) : S96 := xs.getD i.toNat z96
theorem at_T96 {w : World} {A : Option Addr} {n : Nat} {xs : List S96} (h : Kd.C k96 w A n xs) (i : Int) (h0 : 0 ≤ i) (h1 : i < n) : ∃ ad , A = some ad ∧ w.cell? (ad.add (i.toNat * 12)) = some (.int .i64 (rd_T96 xs i).f0.f0) ∧ w.cell? ⟨(ad.add (i.toNat * 12)).block, (ad.add (i.toNat * 12)).off + 1, none⟩ = some (.int .i64 (rd_T96 xs i).f0.f1) ∧ w.cell? ⟨(ad.add (i.toNat * 12)).block, (ad.add (i.toNat * 12)).off + 2, none⟩ = some (.int .i64 (rd_T96 xs i).f0.f2) ∧ w.cell? ⟨(ad.add (i.toNat * 12)).block, (ad.add (i.toNat * 12)).off + 3, none⟩ = some (.int .i64 (rd_T96 xs i).f0.f3) ∧ w.cell? ⟨(ad.add (i.toNat * 12)).block, (ad.add (i.toNat * 12)).off + 4, none⟩ = some (.int .i64 (rd_T96 xs i).f1.f0) ∧ w.cell? ⟨(ad.add (i.toNat * 12)).block, (ad.add (i.toNat * 12)).off + 5, none⟩ = some (.int .i64 (rd_T96 xs i).f1.f1) ∧ w.cell? ⟨(ad.add (i.toNat * 12)).block, (ad.add (i.toNat * 12)).off + 6, none⟩ = some (.int .i64 (rd_T96 xs i).f1.f2) ∧ w.cell? ⟨(ad.add (i.toNat * 12)).block, (ad.add (i.toNat * 12)).off + 7, none⟩ = some (.int .i64 (rd_T96 xs i).f2.f0) ∧ w.cell? ⟨(ad.add (i.toNat * 12)).block, (ad.add (i.toNat * 12)).off + 8, none⟩ = some (.int .i64 (rd_T96 xs i).f2.f1) ∧ w.cell? ⟨(ad.add (i.toNat * 12)).block, (ad.add (i.toNat * 12)).off + 9, none⟩ = some (.int .i64 (rd_T96 xs i).f2.f2) ∧ w.cell? ⟨(ad.add (i.toNat * 12)).block, (ad.add (i.toNat * 12)).off + 10, none⟩ = some (.int .i64 (rd_T96 xs i).f3) ∧ w.cell? ⟨(ad.add (i.toNat * 12)).block, (ad.add (i.toNat * 12)).off + 11, none⟩ = some (.int .i64 (rd_T96 xs i).f4) := by
  obtain ⟨ad, c, e, _, hK, hc0⟩ := Kd.C_get h z96 i h0 h1
  have hc : ∀ j u, c[j]? = some u → w.cell? (ad.add (i.toNat * 12 + j)) = some u := hc0
  obtain rfl := k96_open hK
  exact ⟨ad, e, hc 0 _ rfl, by rw [← add_field _ _ 1 (by omega)]; exact hc 1 _ rfl, by rw [← add_field _ _ 2 (by omega)]; exact hc 2 _ rfl, by rw [← add_field _ _ 3 (by omega)]; exact hc 3 _ rfl, by rw [← add_field _ _ 4 (by omega)]; exact hc 4 _ rfl, by rw [← add_field _ _ 5 (by omega)]; exact hc 5 _ rfl, by rw [← add_field _ _ 6 (by omega)]; exact hc 6 _ rfl, by rw [← add_field _ _ 7 (by omega)]; exact hc 7 _ rfl, by rw [← add_field _ _ 8 (by omega)]; exact hc 8 _ rfl, by rw [← add_field _ _ 9 (by omega)]; exact hc 9 _ rfl, by rw [← add_field _ _ 10 (by omega)]; exact hc 10 _ rfl, by rw [← add_field _ _ 11 (by omega)]; exact hc 11 _ rfl⟩

def rd_L6 (xs : List (List S96)) (i : Int) : (List S96) := xs.getD i.toNat ([] : List S96)
theorem at_L6 {w : World} {A : Option Addr} {n : Nat} {xs : List (List S96)} (h : Kd.C (Kd.slice 96 k96) w A n xs) (i : Int) (h0 : 0 ≤ i) (h1 : i < n) : ∃ ad A0 c0, A = some ad ∧ w.cell? (ad.add i.toNat) = some (.slice A0 (rd_L6 xs i).length c0) ∧ (rd_L6 xs i).length ≤ c0 ∧ k96.C w A0 (rd_L6 xs i).length (rd_L6 xs i) := by
  obtain ⟨ad, c, e, _, hK, hc0⟩ := Kd.C_get h ([] : List S96) i h0 h1
  have hc : ∀ j u, c[j]? = some u → w.cell? (ad.add (i.toNat * 1 + j)) = some u := hc0
  obtain ⟨A0, c0, rfl, l0, g0⟩ := hK
  exact ⟨ad, A0, c0, e, by have hq := hc 0 _ rfl; rwa [Nat.mul_one, Nat.add_zero] at hq, l0, g0⟩

/-! #### struct type 35 -/
structure S35 where
  f0 : Int
  f1 : Int
  f2 : Int
  f3 : Int
  f4 : Int
def z35 : S35 := ⟨(0 : Int), (0 : Int), (0 : Int), (0 : Int), (0 : Int)⟩
def k35 : Kd S35 := Kd.iso (Kd.pair (Kd.int .i64) (Kd.pair (Kd.int .i64) (Kd.pair (Kd.int .i64) (Kd.pair (Kd.int .i64) (Kd.int .i64))))) (fun x : S35 => (x.f0, x.f1, x.f2, x.f3, x.f4))
theorem k35_open {w : World} {x : S35} {cs : List Value} (h : k35.K w x cs) : cs = [.int .i64 x.f0, .int .i64 x.f1, .int .i64 x.f2, .int .i64 x.f3, .int .i64 x.f4] := by
  obtain ⟨_, _, rfl, rfl, ⟨_, _, rfl, rfl, ⟨_, _, rfl, rfl, ⟨_, _, rfl, rfl, rfl⟩⟩⟩⟩ := h
  exact rfl
theorem k35_openM {w : World} {base : Nat} {ok : Nat → Prop} {x : S35} {cs : List Value} (h : k35.M w base ok x cs) : cs = [.int .i64 x.f0, .int .i64 x.f1, .int .i64 x.f2, .int .i64 x.f3, .int .i64 x.f4] := by
  obtain ⟨_, _, rfl, rfl, ⟨_, _, rfl, rfl, ⟨_, _, rfl, rfl, ⟨_, _, rfl, rfl, rfl⟩⟩⟩⟩ := h
  exact rfl
theorem k35_mk (w : World) (x : S35)  : k35.K w x [.int .i64 x.f0, .int .i64 x.f1, .int .i64 x.f2, .int .i64 x.f3, .int .i64 x.f4] := ⟨[.int .i64 x.f0], [.int .i64 x.f1, .int .i64 x.f2, .int .i64 x.f3, .int .i64 x.f4], rfl, rfl, ⟨[.int .i64 x.f1], [.int .i64 x.f2, .int .i64 x.f3, .int .i64 x.f4], rfl, rfl, ⟨[.int .i64 x.f2], [.int .i64 x.f3, .int .i64 x.f4], rfl, rfl, ⟨[.int .i64 x.f3], [.int .i64 x.f4], rfl, rfl, rfl⟩⟩⟩⟩
theorem k35_mkM (w : World) (base : Nat) (ok : Nat → Prop) (x : S35)  : k35.M w base ok x [.int .i64 x.f0, .int .i64 x.f1, .int .i64 x.f2, .int .i64 x.f3, .int .i64 x.f4] := ⟨[.int .i64 x.f0], [.int .i64 x.f1, .int .i64 x.f2, .int .i64 x.f3, .int .i64 x.f4], rfl, rfl, ⟨[.int .i64 x.f1], [.int .i64 x.f2, .int .i64 x.f3, .int .i64 x.f4], rfl, rfl, ⟨[.int .i64 x.f2], [.int .i64 x.f3, .int .i64 x.f4], rfl, rfl, ⟨[.int .i64 x.f3], [.int .i64 x.f4], rfl, rfl, rfl⟩⟩⟩⟩
def rd_T35 (xs : List S35) (i : Int) : S35 := xs.getD i.toNat z35
theorem at_T35 {w : World} {A : Option Addr} {n : Nat} {xs : List S35} (h : Kd.C k35 w A n xs) (i : Int) (h0 : 0 ≤ i) (h1 : i < n) : ∃ ad , A = some ad ∧ w.cell? (ad.add (i.toNat * 5)) = some (.int .i64 (rd_T35 xs i).f0) ∧ w.cell? ⟨(ad.add (i.toNat * 5)).block, (ad.add (i.toNat * 5)).off + 1, none⟩ = some (.int .i64 (rd_T35 xs i).f1) ∧ w.cell? ⟨(ad.add (i.toNat * 5)).block, (ad.add (i.toNat * 5)).off + 2, none⟩ = some (.int .i64 (rd_T35 xs i).f2) ∧ w.cell? ⟨(ad.add (i.toNat * 5)).block, (ad.add (i.toNat * 5)).off + 3, none⟩ = some (.int .i64 (rd_T35 xs i).f3) ∧ w.cell? ⟨(ad.add (i.toNat * 5)).block, (ad.add (i.toNat * 5)).off + 4, none⟩ = some (.int .i64 (rd_T35 xs i).f4) := by
  obtain ⟨ad, c, e, _, hK, hc0⟩ := Kd.C_get h z35 i h0 h1
  have hc : ∀ j u, c[j]? = some u → w.cell? (ad.add (i.toNat * 5 + j)) = some u := hc0
  obtain rfl := k35_open hK
  exact ⟨ad, e, hc 0 _ rfl, by rw [← add_field _ _ 1 (by omega)]; exact hc 1 _ rfl, by rw [← add_field _ _ 2 (by omega)]; exact hc 2 _ rfl, by rw [← add_field _ _ 3 (by omega)]; exact hc 3 _ rfl, by rw [← add_field _ _ 4 (by omega)]; exact hc 4 _ rfl⟩

/-! #### struct type 134 -/
structure S134 where
  f0 : S63
  f1 : S23
  f2 : S23
  f3 : Int
def z134 : S134 := ⟨z63, z23, z23, (0 : Int)⟩
def k134 : Kd S134 := Kd.iso (Kd.pair k63 (Kd.pair k23 (Kd.pair k23 (Kd.int .i64)))) (fun x : S134 => (x.f0, x.f1, x.f2, x.f3))
theorem k134_open {w : World} {x : S134} {cs : List Value} (h : k134.K w x cs) : cs = [.int .i64 x.f0.f0, .int .i64 x.f0.f1, .int .i64 x.f0.f2, .int .i64 x.f0.f3, .int .i64 x.f1.f0, .int .i64 x.f1.f1, .int .i64 x.f1.f2, .int .i64 x.f2.f0, .int .i64 x.f2.f1, .int .i64 x.f2.f2, .int .i64 x.f3] := by
  obtain ⟨_, _, rfl, s0, ⟨_, _, rfl, s4, ⟨_, _, rfl, s7, rfl⟩⟩⟩ := h
  obtain rfl := k63_open s0
  obtain rfl := k23_open s4
  obtain rfl := k23_open s7
  exact rfl
theorem k134_openM {w : World} {base : Nat} {ok : Nat → Prop} {x : S134} {cs : List Value} (h : k134.M w base ok x cs) : cs = [.int .i64 x.f0.f0, .int .i64 x.f0.f1, .int .i64 x.f0.f2, .int .i64 x.f0.f3, .int .i64 x.f1.f0, .int .i64 x.f1.f1, .int .i64 x.f1.f2, .int .i64 x.f2.f0, .int .i64 x.f2.f1, .int .i64 x.f2.f2, .int .i64 x.f3] := by
  obtain ⟨_, _, rfl, s0, ⟨_, _, rfl, s4, ⟨_, _, rfl, s7, rfl⟩⟩⟩ := h
  obtain rfl := k63_openM s0
  obtain rfl := k23_openM s4
  obtain rfl := k23_openM s7
  exact rfl
theorem k134_mk (w : World) (x : S134)  : k134.K w x [.int .i64 x.f0.f0, .int .i64 x.f0.f1, .int .i64 x.f0.f2, .int .i64 x.f0.f3, .int .i64 x.f1.f0, .int .i64 x.f1.f1, .int .i64 x.f1.f2, .int .i64 x.f2.f0, .int .i64 x.f2.f1, .int .i64 x.f2.f2, .int .i64 x.f3] := ⟨[.int .i64 x.f0.f0, .int .i64 x.f0.f1, .int .i64 x.f0.f2, .int .i64 x.f0.f3], [.int .i64 x.f1.f0, .int .i64 x.f1.f1, .int .i64 x.f1.f2, .int .i64 x.f2.f0, .int .i64 x.f2.f1, .int .i64 x.f2.f2, .int .i64 x.f3], rfl, (k63_mk w x.f0 ), ⟨[.int .i64 x.f1.f0, .int .i64 x.f1.f1, .int .i64 x.f1.f2], [.int .i64 x.f2.f0, .int .i64 x.f2.f1, .int .i64 x.f2.f2, .int .i64 x.f3], rfl, (k23_mk w x.f1 ), ⟨[.int .i64 x.f2.f0, .int .i64 x.f2.f1, .int .i64 x.f2.f2], [.int .i64 x.f3], rfl, (k23_mk w x.f2 ), rfl⟩⟩⟩
theorem k134_mkM (w : World) (base : Nat) (ok : Nat → Prop) (x : S134)  : k134.M w base ok x [.int .i64 x.f0.f0, .int .i64 x.f0.f1, .int .i64 x.f0.f2, .int .i64 x.f0.f3, .int .i64 x.f1.f0, .int .i64 x.f1.f1, .int .i64 x.f1.f2, .int .i64 x.f2.f0, .int .i64 x.f2.f1, .int .i64 x.f2.f2, .int .i64 x.f3] := ⟨[.int .i64 x.f0.f0, .int .i64 x.f0.f1, .int .i64 x.f0.f2, .int .i64 x.f0.f3], [.int .i64 x.f1.f0, .int .i64 x.f1.f1, .int .i64 x.f1.f2, .int .i64 x.f2.f0, .int .i64 x.f2.f1, .int .i64 x.f2.f2, .int .i64 x.f3], rfl, (k63_mkM w base ok x.f0 ), ⟨[.int .i64 x.f1.f0, .int .i64 x.f1.f1, .int .i64 x.f1.f2], [.int .i64 x.f2.f0, .int .i64 x.f2.f1, .int .i64 x.f2.f2, .int .i64 x.f3], rfl, (k23_mkM w base ok x.f1 ), ⟨[.int .i64 x.f2.f0, .int .i64 x.f2.f1, .int .i64 x.f2.f2], [.int .i64 x.f3], rfl, (k23_mkM w base ok x.f2 ), rfl⟩⟩⟩
def rd_T134 (xs : List S134) (i : Int) : S134 := xs.getD i.toNat z134
theorem at_T134 {w : World} {A : Option Addr} {n : Nat} {xs : List S134} (h : Kd.C k134 w A n xs) (i : Int) (h0 : 0 ≤ i) (h1 : i < n) : ∃ ad , A = some ad ∧ w.cell? (ad.add (i.toNat * 11)) = some (.int .i64 (rd_T134 xs i).f0.f0) ∧ w.cell? ⟨(ad.add (i.toNat * 11)).block, (ad.add (i.toNat * 11)).off + 1, none⟩ = some (.int .i64 (rd_T134 xs i).f0.f1) ∧ w.cell? ⟨(ad.add (i.toNat * 11)).block, (ad.add (i.toNat * 11)).off + 2, none⟩ = some (.int .i64 (rd_T134 xs i).f0.f2) ∧ w.cell? ⟨(ad.add (i.toNat * 11)).block, (ad.add (i.toNat * 11)).off + 3, none⟩ = some (.int .i64 (rd_T134 xs i).f0.f3) ∧ w.cell? ⟨(ad.add (i.toNat * 11)).block, (ad.add (i.toNat * 11)).off + 4, none⟩ = some (.int .i64 (rd_T134 xs i).f1.f0) ∧ w.cell? ⟨(ad.add (i.toNat * 11)).block, (ad.add (i.toNat * 11)).off + 5, none⟩ = some (.int .i64 (rd_T134 xs i).f1.f1) ∧ w.cell? ⟨(ad.add (i.toNat * 11)).block, (ad.add (i.toNat * 11)).off + 6, none⟩ = some (.int .i64 (rd_T134 xs i).f1.f2) ∧ w.cell? ⟨(ad.add (i.toNat * 11)).block, (ad.add (i.toNat * 11)).off + 7, none⟩ = some (.int .i64 (rd_T134 xs i).f2.f0) ∧ w.cell? ⟨(ad.add (i.toNat * 11)).block, (ad.add (i.toNat * 11)).off + 8, none⟩ = some (.int .i64 (rd_T134 xs i).f2.f1) ∧ w.cell? ⟨(ad.add (i.toNat * 11)).block, (ad.add (i.toNat * 11)).off + 9, none⟩ = some (.int .i64 (rd_T134 xs i).f2.f2) ∧ w.cell? ⟨(ad.add (i.toNat * 11)).block, (ad.add (i.toNat * 11)).off + 10, none⟩ = some (.int .i64 (rd_T134 xs i).f3) := by
  obtain ⟨ad, c, e, _, hK, hc0⟩ := Kd.C_get h z134 i h0 h1
  have hc : ∀ j u, c[j]? = some u → w.cell? (ad.add (i.toNat * 11 + j)) = some u := hc0
  obtain rfl := k134_open hK
  exact ⟨ad, e, hc 0 _ rfl, by rw [← add_field _ _ 1 (by omega)]; exact hc 1 _ rfl, by rw [← add_field _ _ 2 (by omega)]; exact hc 2 _ rfl, by rw [← add_field _ _ 3 (by omega)]; exact hc 3 _ rfl, by rw [← add_field _ _ 4 (by omega)]; exact hc 4 _ rfl, by rw [← add_field _ _ 5 (by omega)]; exact hc 5 _ rfl, by rw [← add_field _ _ 6 (by omega)]; exact hc 6 _ rfl, by rw [← add_field _ _ 7 (by omega)]; exact hc 7 _ rfl, by rw [← add_field _ _ 8 (by omega)]; exact hc 8 _ rfl, by rw [← add_field _ _ 9 (by omega)]; exact hc 9 _ rfl, by rw [← add_field _ _ 10 (by omega)]; exact hc 10 _ rfl⟩

/-! #### struct type 91 -/
structure S91 where
  f0 : Int
  f1 : Int
def z91 : S91 := ⟨(0 : Int), (0 : Int)⟩
def k91 : Kd S91 := Kd.iso (Kd.pair (Kd.int .i64) (Kd.int .i64)) (fun x : S91 => (x.f0, x.f1))
theorem k91_open {w : World} {x : S91} {cs : List Value} (h : k91.K w x cs) : cs = [.int .i64 x.f0, .int .i64 x.f1] := by
  obtain ⟨_, _, rfl, rfl, rfl⟩ := h
  exact rfl
theorem k91_openM {w : World} {base : Nat} {ok : Nat → Prop} {x : S91} {cs : List Value} (h : k91.M w base ok x cs) : cs = [.int .i64 x.f0, .int .i64 x.f1] := by
  obtain ⟨_, _, rfl, rfl, rfl⟩ := h
  exact rfl
theorem k91_mk (w : World) (x : S91)  : k91.K w x [.int .i64 x.f0, .int .i64 x.f1] := ⟨[.int .i64 x.f0], [.int .i64 x.f1], rfl, rfl, rfl⟩
theorem k91_mkM (w : World) (base : Nat) (ok : Nat → Prop) (x : S91)  : k91.M w base ok x [.int .i64 x.f0, .int .i64 x.f1] := ⟨[.int .i64 x.f0], [.int .i64 x.f1], rfl, rfl, rfl⟩
def rd_T91 (xs : List S91) (i : Int) : S91 := xs.getD i.toNat z91
theorem at_T91 {w : World} {A : Option Addr} {n : Nat} {xs : List S91} (h : Kd.C k91 w A n xs) (i : Int) (h0 : 0 ≤ i) (h1 : i < n) : ∃ ad , A = some ad ∧ w.cell? (ad.add (i.toNat * 2)) = some (.int .i64 (rd_T91 xs i).f0) ∧ w.cell? ⟨(ad.add (i.toNat * 2)).block, (ad.add (i.toNat * 2)).off + 1, none⟩ = some (.int .i64 (rd_T91 xs i).f1) := by
  obtain ⟨ad, c, e, _, hK, hc0⟩ := Kd.C_get h z91 i h0 h1
  have hc : ∀ j u, c[j]? = some u → w.cell? (ad.add (i.toNat * 2 + j)) = some u := hc0
  obtain rfl := k91_open hK
  exact ⟨ad, e, hc 0 _ rfl, by rw [← add_field _ _ 1 (by omega)]; exact hc 1 _ rfl⟩

def rd_L10 (xs : List (List S91)) (i : Int) : (List S91) := xs.getD i.toNat ([] : List S91)
theorem at_L10 {w : World} {A : Option Addr} {n : Nat} {xs : List (List S91)} (h : Kd.C (Kd.slice 91 k91) w A n xs) (i : Int) (h0 : 0 ≤ i) (h1 : i < n) : ∃ ad A0 c0, A = some ad ∧ w.cell? (ad.add i.toNat) = some (.slice A0 (rd_L10 xs i).length c0) ∧ (rd_L10 xs i).length ≤ c0 ∧ k91.C w A0 (rd_L10 xs i).length (rd_L10 xs i) := by
  obtain ⟨ad, c, e, _, hK, hc0⟩ := Kd.C_get h ([] : List S91) i h0 h1
  have hc : ∀ j u, c[j]? = some u → w.cell? (ad.add (i.toNat * 1 + j)) = some u := hc0
  obtain ⟨A0, c0, rfl, l0, g0⟩ := hK
  exact ⟨ad, A0, c0, e, by have hq := hc 0 _ rfl; rwa [Nat.mul_one, Nat.add_zero] at hq, l0, g0⟩

end Go.Proofs.Ytjegihodmidhoaa.G
namespace Go.Proofs.Ytjegihodmidhoaa.G
open Go.RowKit Go.ChangeShapes Go.WideShapes Go.Deep Go.Proofs.YtjegihodmidhoaaW.PrintWords Go.Proofs.YtjegihodmidhoaaW.PrintLast Go.Proofs.YtjegihodmidhoaaW.PrintMore
set_option linter.unusedVariables false
set_option linter.unusedSimpArgs false
section
variable {H : Type} {enc : TypeId × Value → H} {w : World} {base : Nat} {spare : Nat → Bool} {held : Bool}
theorem cellsOf26 : Try.prog.cellsOf 26 = 4 := by kernel_rfl
theorem cellsOf23 : Try.prog.cellsOf 23 = 3 := by kernel_rfl
theorem cellsOf24 : Try.prog.cellsOf 24 = 1 := by kernel_rfl
theorem cellsOf63 : Try.prog.cellsOf 63 = 4 := by kernel_rfl
theorem cellsOf3 : Try.prog.cellsOf 3 = 1 := by kernel_rfl
theorem list3 {α : Type} {l : List α} (h : l.length = 3) : ∃ a b c, l = [a, b, c] := by
  match l, h with
  | [a, b, c], _ => exact ⟨a, b, c, rfl⟩
theorem list4 {α : Type} {l : List α} (h : l.length = 4) : ∃ a b c d, l = [a, b, c, d] := by
  match l, h with
  | [a, b, c, d], _ => exact ⟨a, b, c, d, rfl⟩
theorem list2 {α : Type} {l : List α} (h : l.length = 2) : ∃ a b, l = [a, b] := by
  match l, h with
  | [a, b], _ => exact ⟨a, b, rfl⟩
set_option maxRecDepth 100000 in
theorem open_layer {n : Nat} {cs : List Value} {x : DataW H × List MemPlace} (h : DataW.trod enc Try.prog w base spare held n 63 cs = some x) : ∃ l : S63, cs = [.int .i64 l.f0, .int .i64 l.f1, .int .i64 l.f2, .int .i64 l.f3] := by
  obtain ⟨xs, m, _, _, hl, hxl, hg⟩ := DataW.trod_struct Try.underlying63 h
  obtain ⟨c0, c1, c2, c3, rfl⟩ := list4 (hl.trans cellsOf63)
  obtain ⟨y0, y1, y2, y3, rfl⟩ := list4 (hxl.trans rfl)
  obtain ⟨n0, q0, _, _⟩ := DataW.trod_int Try.underlying3 (cs := [c0]) (hg 0 _ rfl)
  obtain ⟨n1, q1, _, _⟩ := DataW.trod_int Try.underlying3 (cs := [c1]) (hg 1 _ rfl)
  obtain ⟨n2, q2, _, _⟩ := DataW.trod_int Try.underlying3 (cs := [c2]) (hg 2 _ rfl)
  obtain ⟨n3, q3, _, _⟩ := DataW.trod_int Try.underlying3 (cs := [c3]) (hg 3 _ rfl)
  cases q0; cases q1; cases q2; cases q3
  exact ⟨⟨n0, n1, n2, n3⟩, rfl⟩
set_option maxRecDepth 100000 in
theorem open_shape {n : Nat} {cs : List Value} {x : DataW H × List MemPlace} (h : DataW.trod enc Try.prog w base spare held n 23 cs = some x) : ∃ a b c : Int, cs = [.int .i64 a, .int .i64 b, .int .i64 c] := by
  obtain ⟨xs, m, _, _, hl, hxl, hg⟩ := DataW.trod_struct Try.underlying23 h
  obtain ⟨c0, c1, c2, rfl⟩ := list3 (hl.trans cellsOf23)
  obtain ⟨y0, y1, y2, rfl⟩ := list3 (hxl.trans rfl)
  obtain ⟨n0, q0, _, _⟩ := DataW.trod_int Try.underlying3 (cs := [c0]) (hg 0 _ rfl)
  obtain ⟨n1, q1, _, _⟩ := DataW.trod_int Try.underlying3 (cs := [c1]) (hg 1 _ rfl)
  obtain ⟨n2, q2, _, _⟩ := DataW.trod_int Try.underlying3 (cs := [c2]) (hg 2 _ rfl)
  cases q0; cases q1; cases q2
  exact ⟨n0, n1, n2, rfl⟩
set_option maxRecDepth 100000 in
theorem open_net {v : Value} {d : DataW H} {p : List MemPlace} {b0 : Nat} {r : Reach} (hv : Value.okWide Try.prog w r b0 26 v) (h : DataW.Trod enc Try.prog w base spare held 26 v d p) :
    ∃ (a b c : Int) (A : Option Addr) (cap : Nat) (ls : List S63), v = .agg #[.int .i64 a, .int .i64 b, .int .i64 c, .slice A ls.length cap] ∧ ls.length ≤ cap ∧ Kd.C k63 w A ls.length ls := by
  obtain ⟨cs, rfl, hsz⟩ := okWide_struct Try.underlying26 hv
  obtain ⟨l⟩ := cs
  obtain ⟨c0, c1, c2, c3, rfl⟩ := list4 (l := l) (hsz.trans cellsOf26)
  obtain ⟨fuel, hf⟩ := h
  obtain ⟨xs, n, _, hx, _, hxl, hg⟩ := DataW.trod_struct Try.underlying26 hf
  obtain ⟨y0, y1, rfl⟩ := list2 (hxl.trans rfl)
  obtain ⟨a, b, c, q⟩ := open_shape (cs := [c0, c1, c2]) (hg 0 _ rfl)
  cases q
  have g1 : DataW.trod enc Try.prog w base spare held n 24 [c3] = some y1 := hg 1 _ rfl
  rcases open_slice Try.underlying24 g1 with ⟨q1, _⟩ | ⟨ad, len, cap, m, n', D, Pl, q1, hb, hl, hm, hmm, _, hi⟩
  · simp [Value.cells] at q1
    subst q1
    exact ⟨a, b, c, none, 0, [], rfl, Nat.le_refl _, rfl, by simp, fun h => absurd h (by simp)⟩
  · simp [Value.cells] at q1
    subst q1
    have hlm : len ≤ m := by rw [hmm]; split <;> omega
    have hel : ∀ i, ∃ x : S63, i < len → ∀ j u, ([.int .i64 x.f0, .int .i64 x.f1, .int .i64 x.f2, .int .i64 x.f3] : List Value)[j]? = some u → w.cell? (ad.add (i * 4 + j)) = some u := by
      intro i
      by_cases hil : i < len
      · obtain ⟨cs', hc, ht⟩ := hi i (by omega)
        rw [cellsOf63] at hc
        obtain ⟨x, rfl⟩ := open_layer ht
        obtain ⟨_, _, hat⟩ := World.cells?_some hc
        refine ⟨x, fun _ j u hj => ?_⟩
        have hj4 : j < 4 := by have := (List.getElem?_eq_some_iff.1 hj).1; simpa using this
        have := hat j hj4
        rw [Go.Deep.add_add] at this
        rw [this]; exact hj
      · exact ⟨z63, fun h => absurd h hil⟩
    obtain ⟨f, hf2⟩ := Classical.axiomOfChoice hel
    have hll : ((List.range len).map f).length = len := by simp
    refine ⟨a, b, c, some ad, cap, (List.range len).map f, by rw [hll], by rw [hll]; exact hl, rfl, by rw [hll]; unfold maxLen at hm; omega, fun _ => ⟨ad, rfl, fun j x hj => ?_⟩⟩
    have hjl : j < len := by have := (List.getElem?_eq_some_iff.1 hj).1; simpa using this
    have hxj : f j = x := by simpa [hjl] using hj
    subst hxj
    exact ⟨_, rfl, k63_mk w (f j), hf2 j hjl⟩
end
end Go.Proofs.Ytjegihodmidhoaa.G
namespace Go.Proofs.Ytjegihodmidhoaa.G
open Go.RowKit Go.Proofs.YtjegihodmidhoaaW.PrintWords Go.Proofs.YtjegihodmidhoaaW.PrintLast Go.Proofs.YtjegihodmidhoaaW.PrintMore
attribute [local go_sem] max2_int min2_int max_two min_two max_three min_three max_four min_four   -- for this text's walks alone
set_option linter.unusedVariables false
set_option linter.unusedSimpArgs false

/-! ### shape_within: function 72 -/
def shape_within.f (a0 : Int) (a1 : Int) (a2 : Int) : Option (Bool) := if a0 ≥ a1 then (some (decide (a0 ≤ a2))) else (some false)
set_option maxHeartbeats 8000000 in
set_option maxRecDepth 100000 in
theorem shape_within.calls (a0 : Int) (a1 : Int) (a2 : Int) (r : Bool) (w : World) (h : shape_within.f a0 a1 a2 = some r) :
    Calls Try.prog 72 #[.int .i64 a0, .int .i64 a1, .int .i64 a2] w fun e w' => e = .returned (.bool r) ∧ Drawn0 w w' := by
  have H : (if a0 ≥ a1 then (some (decide (a0 ≤ a2))) else (some false)) = some r := h
  clear h
  by_cases c4 : a0 ≥ a1
  · rw [if_pos c4] at H
    have c4b0 : decide (a1 ≤ a0) = true := decide_eq_true c4
    clear c4
    obtain rfl := Option.some.inj H
    go_enter Try.func72, Try.ntmps72
    go_wp2
    go_ret
    exact ⟨by first | rfl | (simp; done) | (simp [*]; done), by repeat (first | exact Drawn0.refl _ | apply Drawn0.step)⟩
  · rw [if_neg c4] at H
    have c4b0 : decide (a1 ≤ a0) = false := decide_eq_false c4
    clear c4
    obtain rfl := Option.some.inj H
    go_enter Try.func72, Try.ntmps72
    go_wp2
    go_ret
    exact ⟨by first | rfl | (simp; done) | (simp [*]; done), by repeat (first | exact Drawn0.refl _ | apply Drawn0.step)⟩

end Go.Proofs.Ytjegihodmidhoaa.G
namespace Go.Proofs.Ytjegihodmidhoaa.G
open Go.RowKit Go.Proofs.YtjegihodmidhoaaW.PrintWords Go.Proofs.YtjegihodmidhoaaW.PrintLast Go.Proofs.YtjegihodmidhoaaW.PrintMore
attribute [local go_sem] max2_int min2_int max_two min_two max_three min_three max_four min_four   -- for this text's walks alone
set_option linter.unusedVariables false
set_option linter.unusedSimpArgs false

/-! ### shape_Right: function 59 -/
def shape_Right.f (a0_0 : Int) (a0_1 : Int) (a0_2 : Int) : Option (Bool) := (shape_within.f a0_0 1 8).bind fun t142 => (if t142 = true then ((shape_within.f a0_1 1 12).bind fun t143 => (if t143 = true then ((shape_within.f a0_2 1 12).bind fun t144 => (if t144 = true then (some (decide ((wrap64 ((wrap64 (a0_0 * a0_1)) * a0_2)) ≤ 128))) else (some false))) else (some false))) else (some false))
set_option maxHeartbeats 8000000 in
set_option maxRecDepth 100000 in
theorem shape_Right.calls (a0_0 : Int) (a0_1 : Int) (a0_2 : Int) (r : Bool) (w : World) (h : shape_Right.f a0_0 a0_1 a0_2 = some r) :
    Calls Try.prog 59 #[.agg #[.int .i64 a0_0, .int .i64 a0_1, .int .i64 a0_2]] w fun e w' => e = .returned (.bool r) ∧ Below w.heap.size w w' := by
  have hu23 := Try.underlying23
  have HB := Aside0.mk (Below.refl w.heap.size w)
  have H : ((shape_within.f a0_0 1 8).bind fun t142 => (if t142 = true then ((shape_within.f a0_1 1 12).bind fun t143 => (if t143 = true then ((shape_within.f a0_2 1 12).bind fun t144 => (if t144 = true then (some (decide ((wrap64 ((wrap64 (a0_0 * a0_1)) * a0_2)) ≤ 128))) else (some false))) else (some false))) else (some false))) = some r := h
  clear h
  replace H := Option.bind_eq_some_iff.mp H
  obtain ⟨t142, A20, H⟩ := H
  replace H : (if t142 = true then ((shape_within.f a0_1 1 12).bind fun t143 => (if t143 = true then ((shape_within.f a0_2 1 12).bind fun t144 => (if t144 = true then (some (decide ((wrap64 ((wrap64 (a0_0 * a0_1)) * a0_2)) ≤ 128))) else (some false))) else (some false))) else (some false)) = some r := H
  have A2 := Aside0.mk A20
  clear A20
  by_cases c3 : t142 = true
  · subst c3
    have H1 : ((shape_within.f a0_1 1 12).bind fun t143 => (if t143 = true then ((shape_within.f a0_2 1 12).bind fun t144 => (if t144 = true then (some (decide ((wrap64 ((wrap64 (a0_0 * a0_1)) * a0_2)) ≤ 128))) else (some false))) else (some false))) = some r := by rw [if_pos rfl] at H; exact H
    clear H
    have H := H1
    clear H1
    replace H := Option.bind_eq_some_iff.mp H
    obtain ⟨t143, A40, H⟩ := H
    replace H : (if t143 = true then ((shape_within.f a0_2 1 12).bind fun t144 => (if t144 = true then (some (decide ((wrap64 ((wrap64 (a0_0 * a0_1)) * a0_2)) ≤ 128))) else (some false))) else (some false)) = some r := H
    have A4 := Aside0.mk A40
    clear A40
    by_cases c5 : t143 = true
    · subst c5
      have H1 : ((shape_within.f a0_2 1 12).bind fun t144 => (if t144 = true then (some (decide ((wrap64 ((wrap64 (a0_0 * a0_1)) * a0_2)) ≤ 128))) else (some false))) = some r := by rw [if_pos rfl] at H; exact H
      clear H
      have H := H1
      clear H1
      replace H := Option.bind_eq_some_iff.mp H
      obtain ⟨t144, A60, H⟩ := H
      replace H : (if t144 = true then (some (decide ((wrap64 ((wrap64 (a0_0 * a0_1)) * a0_2)) ≤ 128))) else (some false)) = some r := H
      have A6 := Aside0.mk A60
      clear A60
      by_cases c7 : t144 = true
      · subst c7
        have H1 : (some (decide ((wrap64 ((wrap64 (a0_0 * a0_1)) * a0_2)) ≤ 128))) = some r := by rw [if_pos rfl] at H; exact H
        clear H
        have H := H1
        clear H1
        obtain rfl := Option.some.inj H
        go_enter Try.func59, Try.ntmps59
        go_wp2_with (first | ((with_reducible refine gate_dst (N := 1) rfl ?_); refine box_event ?hg (N := 1) ?hd (cs := #[.int .i64 a0_0, .int .i64 a0_1, .int .i64 a0_2]) (t := 23) ?hr ?_; (case hd => rfl); (case hg => rfl); (case hr => first | (go_simp; done) | (go_simp; rfl)); intro gb141 hg w8 hbox hb; have n0_ := Aside0.mk (below_step (by repeat (first | (with_reducible first | exact HB.out | apply below_alloc | apply pw_below_drewN | apply below_drew1) | exact HB.out)) hb); have n1_ := Aside0.mk (hbox); have n2_ := Aside0.mk ((by rw [hg]; exact (below_size (by repeat (first | (with_reducible first | exact HB.out | apply below_alloc | apply pw_below_drewN | apply below_drew1) | exact HB.out))) : w.heap.size ≤ gb141)); have n3_ := Aside0.mk ((by rw [hg]; exact (below_size (by repeat (first | (with_reducible first | exact HB.out | apply below_alloc | apply pw_below_drewN | apply below_drew1) | exact HB.out))) : w.heap.size ≤ gb141)); clear HB; have HB := n0_; have BK141 := n1_; have GW141 := n2_; have GE141 := n3_; clear n0_ n1_ n2_ n3_; clear hb hbox hg; have hcz9_0 : w8.cell? ⟨gb141, 0, none⟩ = some (.int .i64 a0_0) := (blk_cell BK141.out 0).trans rfl; have hcz9_1 : w8.cell? ⟨gb141, 1, none⟩ = some (.int .i64 a0_1) := (blk_cell BK141.out 1).trans rfl; have hcz9_2 : w8.cell? ⟨gb141, 2, none⟩ = some (.int .i64 a0_2) := (blk_cell BK141.out 2).trans rfl; have hfz9_0 := blk_frozen BK141.out 0; have hfz9_1 := blk_frozen BK141.out 1; have hfz9_2 := blk_frozen BK141.out 2) | ((with_reducible refine gate_callee (f := 72) rfl ?_); refine goesL_ (some 5) rfl rfl Try.func72 (by kernel_rfl) rfl #[.int .i64 a0_0, .int .i64 1, .int .i64 8] rfl (by (try simp only [List.map_toArray, List.map_cons, List.map_nil]); first | done | rfl | (simp only [List.length_drop, List.length_take]; rfl)) ?_; (with_reducible refine (shape_within.calls a0_0 1 8 true _ A2.out).mono ?_); rintro e w' ⟨rfl, ⟨nd, rfl⟩⟩; refine ⟨_, rfl, ?_⟩) | (go_at_call 72; (with_reducible refine (shape_within.calls a0_1 1 12 true _ A4.out).mono ?_); rintro e w' ⟨rfl, ⟨nd, rfl⟩⟩) | (go_at_call 72; (with_reducible refine (shape_within.calls a0_2 1 12 true _ A6.out).mono ?_); rintro e w' ⟨rfl, ⟨nd, rfl⟩⟩))
        go_ret
        exact ⟨by first | rfl | (simp [errW_none, errW_some] <;> rfl) | (simp [*, errW_none, errW_some] <;> rfl), by repeat (first | (with_reducible first | exact HB.out | apply below_alloc | apply pw_below_drewN | apply below_drew1 | refine below_set ?_ GE141.out) | exact HB.out)⟩
      · replace c7 := Bool.eq_false_iff.mpr c7
        subst c7
        have H1 : (some false) = some r := by rw [if_neg (show ¬ (false = true) by decide)] at H; exact H
        clear H
        have H := H1
        clear H1
        obtain rfl := Option.some.inj H
        go_enter Try.func59, Try.ntmps59
        go_wp2_with (first | ((with_reducible refine gate_dst (N := 1) rfl ?_); refine box_event ?hg (N := 1) ?hd (cs := #[.int .i64 a0_0, .int .i64 a0_1, .int .i64 a0_2]) (t := 23) ?hr ?_; (case hd => rfl); (case hg => rfl); (case hr => first | (go_simp; done) | (go_simp; rfl)); intro gb141 hg w10 hbox hb; have n0_ := Aside0.mk (below_step (by repeat (first | (with_reducible first | exact HB.out | apply below_alloc | apply pw_below_drewN | apply below_drew1) | exact HB.out)) hb); have n1_ := Aside0.mk (hbox); have n2_ := Aside0.mk ((by rw [hg]; exact (below_size (by repeat (first | (with_reducible first | exact HB.out | apply below_alloc | apply pw_below_drewN | apply below_drew1) | exact HB.out))) : w.heap.size ≤ gb141)); have n3_ := Aside0.mk ((by rw [hg]; exact (below_size (by repeat (first | (with_reducible first | exact HB.out | apply below_alloc | apply pw_below_drewN | apply below_drew1) | exact HB.out))) : w.heap.size ≤ gb141)); clear HB; have HB := n0_; have BK141 := n1_; have GW141 := n2_; have GE141 := n3_; clear n0_ n1_ n2_ n3_; clear hb hbox hg; have hcz11_0 : w10.cell? ⟨gb141, 0, none⟩ = some (.int .i64 a0_0) := (blk_cell BK141.out 0).trans rfl; have hcz11_1 : w10.cell? ⟨gb141, 1, none⟩ = some (.int .i64 a0_1) := (blk_cell BK141.out 1).trans rfl; have hcz11_2 : w10.cell? ⟨gb141, 2, none⟩ = some (.int .i64 a0_2) := (blk_cell BK141.out 2).trans rfl; have hfz11_0 := blk_frozen BK141.out 0; have hfz11_1 := blk_frozen BK141.out 1; have hfz11_2 := blk_frozen BK141.out 2) | ((with_reducible refine gate_callee (f := 72) rfl ?_); refine goesL_ (some 5) rfl rfl Try.func72 (by kernel_rfl) rfl #[.int .i64 a0_0, .int .i64 1, .int .i64 8] rfl (by (try simp only [List.map_toArray, List.map_cons, List.map_nil]); first | done | rfl | (simp only [List.length_drop, List.length_take]; rfl)) ?_; (with_reducible refine (shape_within.calls a0_0 1 8 true _ A2.out).mono ?_); rintro e w' ⟨rfl, ⟨nd, rfl⟩⟩; refine ⟨_, rfl, ?_⟩) | (go_at_call 72; (with_reducible refine (shape_within.calls a0_1 1 12 true _ A4.out).mono ?_); rintro e w' ⟨rfl, ⟨nd, rfl⟩⟩) | (go_at_call 72; (with_reducible refine (shape_within.calls a0_2 1 12 false _ A6.out).mono ?_); rintro e w' ⟨rfl, ⟨nd, rfl⟩⟩))
        go_ret
        exact ⟨by first | rfl | (simp [errW_none, errW_some] <;> rfl) | (simp [*, errW_none, errW_some] <;> rfl), by repeat (first | (with_reducible first | exact HB.out | apply below_alloc | apply pw_below_drewN | apply below_drew1 | refine below_set ?_ GE141.out) | exact HB.out)⟩
    · replace c5 := Bool.eq_false_iff.mpr c5
      subst c5
      have H1 : (some false) = some r := by rw [if_neg (show ¬ (false = true) by decide)] at H; exact H
      clear H
      have H := H1
      clear H1
      obtain rfl := Option.some.inj H
      go_enter Try.func59, Try.ntmps59
      go_wp2_with (first | ((with_reducible refine gate_dst (N := 1) rfl ?_); refine box_event ?hg (N := 1) ?hd (cs := #[.int .i64 a0_0, .int .i64 a0_1, .int .i64 a0_2]) (t := 23) ?hr ?_; (case hd => rfl); (case hg => rfl); (case hr => first | (go_simp; done) | (go_simp; rfl)); intro gb141 hg w12 hbox hb; have n0_ := Aside0.mk (below_step (by repeat (first | (with_reducible first | exact HB.out | apply below_alloc | apply pw_below_drewN | apply below_drew1) | exact HB.out)) hb); have n1_ := Aside0.mk (hbox); have n2_ := Aside0.mk ((by rw [hg]; exact (below_size (by repeat (first | (with_reducible first | exact HB.out | apply below_alloc | apply pw_below_drewN | apply below_drew1) | exact HB.out))) : w.heap.size ≤ gb141)); have n3_ := Aside0.mk ((by rw [hg]; exact (below_size (by repeat (first | (with_reducible first | exact HB.out | apply below_alloc | apply pw_below_drewN | apply below_drew1) | exact HB.out))) : w.heap.size ≤ gb141)); clear HB; have HB := n0_; have BK141 := n1_; have GW141 := n2_; have GE141 := n3_; clear n0_ n1_ n2_ n3_; clear hb hbox hg; have hcz13_0 : w12.cell? ⟨gb141, 0, none⟩ = some (.int .i64 a0_0) := (blk_cell BK141.out 0).trans rfl; have hcz13_1 : w12.cell? ⟨gb141, 1, none⟩ = some (.int .i64 a0_1) := (blk_cell BK141.out 1).trans rfl; have hcz13_2 : w12.cell? ⟨gb141, 2, none⟩ = some (.int .i64 a0_2) := (blk_cell BK141.out 2).trans rfl; have hfz13_0 := blk_frozen BK141.out 0; have hfz13_1 := blk_frozen BK141.out 1; have hfz13_2 := blk_frozen BK141.out 2) | ((with_reducible refine gate_callee (f := 72) rfl ?_); refine goesL_ (some 5) rfl rfl Try.func72 (by kernel_rfl) rfl #[.int .i64 a0_0, .int .i64 1, .int .i64 8] rfl (by (try simp only [List.map_toArray, List.map_cons, List.map_nil]); first | done | rfl | (simp only [List.length_drop, List.length_take]; rfl)) ?_; (with_reducible refine (shape_within.calls a0_0 1 8 true _ A2.out).mono ?_); rintro e w' ⟨rfl, ⟨nd, rfl⟩⟩; refine ⟨_, rfl, ?_⟩) | (go_at_call 72; (with_reducible refine (shape_within.calls a0_1 1 12 false _ A4.out).mono ?_); rintro e w' ⟨rfl, ⟨nd, rfl⟩⟩))
      go_ret
      exact ⟨by first | rfl | (simp [errW_none, errW_some] <;> rfl) | (simp [*, errW_none, errW_some] <;> rfl), by repeat (first | (with_reducible first | exact HB.out | apply below_alloc | apply pw_below_drewN | apply below_drew1 | refine below_set ?_ GE141.out) | exact HB.out)⟩
  · replace c3 := Bool.eq_false_iff.mpr c3
    subst c3
    have H1 : (some false) = some r := by rw [if_neg (show ¬ (false = true) by decide)] at H; exact H
    clear H
    have H := H1
    clear H1
    obtain rfl := Option.some.inj H
    go_enter Try.func59, Try.ntmps59
    go_wp2_with (first | ((with_reducible refine gate_dst (N := 1) rfl ?_); refine box_event ?hg (N := 1) ?hd (cs := #[.int .i64 a0_0, .int .i64 a0_1, .int .i64 a0_2]) (t := 23) ?hr ?_; (case hd => rfl); (case hg => rfl); (case hr => first | (go_simp; done) | (go_simp; rfl)); intro gb141 hg w14 hbox hb; have n0_ := Aside0.mk (below_step (by repeat (first | (with_reducible first | exact HB.out | apply below_alloc | apply pw_below_drewN | apply below_drew1) | exact HB.out)) hb); have n1_ := Aside0.mk (hbox); have n2_ := Aside0.mk ((by rw [hg]; exact (below_size (by repeat (first | (with_reducible first | exact HB.out | apply below_alloc | apply pw_below_drewN | apply below_drew1) | exact HB.out))) : w.heap.size ≤ gb141)); have n3_ := Aside0.mk ((by rw [hg]; exact (below_size (by repeat (first | (with_reducible first | exact HB.out | apply below_alloc | apply pw_below_drewN | apply below_drew1) | exact HB.out))) : w.heap.size ≤ gb141)); clear HB; have HB := n0_; have BK141 := n1_; have GW141 := n2_; have GE141 := n3_; clear n0_ n1_ n2_ n3_; clear hb hbox hg; have hcz15_0 : w14.cell? ⟨gb141, 0, none⟩ = some (.int .i64 a0_0) := (blk_cell BK141.out 0).trans rfl; have hcz15_1 : w14.cell? ⟨gb141, 1, none⟩ = some (.int .i64 a0_1) := (blk_cell BK141.out 1).trans rfl; have hcz15_2 : w14.cell? ⟨gb141, 2, none⟩ = some (.int .i64 a0_2) := (blk_cell BK141.out 2).trans rfl; have hfz15_0 := blk_frozen BK141.out 0; have hfz15_1 := blk_frozen BK141.out 1; have hfz15_2 := blk_frozen BK141.out 2) | ((with_reducible refine gate_callee (f := 72) rfl ?_); refine goesL_ (some 5) rfl rfl Try.func72 (by kernel_rfl) rfl #[.int .i64 a0_0, .int .i64 1, .int .i64 8] rfl (by (try simp only [List.map_toArray, List.map_cons, List.map_nil]); first | done | rfl | (simp only [List.length_drop, List.length_take]; rfl)) ?_; (with_reducible refine (shape_within.calls a0_0 1 8 false _ A2.out).mono ?_); rintro e w' ⟨rfl, ⟨nd, rfl⟩⟩; refine ⟨_, rfl, ?_⟩))
    go_ret
    exact ⟨by first | rfl | (simp [errW_none, errW_some] <;> rfl) | (simp [*, errW_none, errW_some] <;> rfl), by repeat (first | (with_reducible first | exact HB.out | apply below_alloc | apply pw_below_drewN | apply below_drew1 | refine below_set ?_ GE141.out) | exact HB.out)⟩

end Go.Proofs.Ytjegihodmidhoaa.G
namespace Go.Proofs.Ytjegihodmidhoaa.G
open Go.RowKit Go.Proofs.YtjegihodmidhoaaW.PrintWords Go.Proofs.YtjegihodmidhoaaW.PrintLast Go.Proofs.YtjegihodmidhoaaW.PrintMore
attribute [local go_sem] max2_int min2_int max_two min_two max_three min_three max_four min_four   -- for this text's walks alone
set_option linter.unusedVariables false
set_option linter.unusedSimpArgs false

/-! ### shape_Size: function 40 -/
def shape_Size.f (a0_0 : Int) (a0_1 : Int) (a0_2 : Int) : Option (Int) := (shape_Right.f a0_0 a0_1 a0_2).bind fun t146 => (if t146 = true then (some (wrap64 ((wrap64 (a0_0 * a0_1)) * a0_2))) else (some 0))
set_option maxHeartbeats 8000000 in
set_option maxRecDepth 100000 in
theorem shape_Size.calls (a0_0 : Int) (a0_1 : Int) (a0_2 : Int) (r : Int) (w : World) (h : shape_Size.f a0_0 a0_1 a0_2 = some r) :
    Calls Try.prog 40 #[.agg #[.int .i64 a0_0, .int .i64 a0_1, .int .i64 a0_2]] w fun e w' => e = .returned (.int .i64 r) ∧ Below w.heap.size w w' := by
  have hu23 := Try.underlying23
  have HB := Aside0.mk (Below.refl w.heap.size w)
  have H : ((shape_Right.f a0_0 a0_1 a0_2).bind fun t146 => (if t146 = true then (some (wrap64 ((wrap64 (a0_0 * a0_1)) * a0_2))) else (some 0))) = some r := h
  clear h
  replace H := Option.bind_eq_some_iff.mp H
  obtain ⟨t146, A20, H⟩ := H
  replace H : (if t146 = true then (some (wrap64 ((wrap64 (a0_0 * a0_1)) * a0_2))) else (some 0)) = some r := H
  have A2 := Aside0.mk A20
  clear A20
  by_cases c3 : t146 = true
  · subst c3
    have H1 : (some (wrap64 ((wrap64 (a0_0 * a0_1)) * a0_2))) = some r := by rw [if_pos rfl] at H; exact H
    clear H
    have H := H1
    clear H1
    obtain rfl := Option.some.inj H
    go_enter Try.func40, Try.ntmps40
    go_wp2_with (first | ((with_reducible refine gate_dst (N := 1) rfl ?_); refine box_event ?hg (N := 1) ?hd (cs := #[.int .i64 a0_0, .int .i64 a0_1, .int .i64 a0_2]) (t := 23) ?hr ?_; (case hd => rfl); (case hg => rfl); (case hr => first | (go_simp; done) | (go_simp; rfl)); intro gb145 hg w4 hbox hb; have n0_ := Aside0.mk (below_step (by repeat (first | (with_reducible first | exact HB.out | apply below_alloc | apply pw_below_drewN | apply below_drew1) | exact HB.out)) hb); have n1_ := Aside0.mk (hbox); have n2_ := Aside0.mk ((by rw [hg]; exact (below_size (by repeat (first | (with_reducible first | exact HB.out | apply below_alloc | apply pw_below_drewN | apply below_drew1) | exact HB.out))) : w.heap.size ≤ gb145)); have n3_ := Aside0.mk ((by rw [hg]; exact (below_size (by repeat (first | (with_reducible first | exact HB.out | apply below_alloc | apply pw_below_drewN | apply below_drew1) | exact HB.out))) : w.heap.size ≤ gb145)); clear HB; have HB := n0_; have BK145 := n1_; have GW145 := n2_; have GE145 := n3_; clear n0_ n1_ n2_ n3_; clear hb hbox hg; have hcz5_0 : w4.cell? ⟨gb145, 0, none⟩ = some (.int .i64 a0_0) := (blk_cell BK145.out 0).trans rfl; have hcz5_1 : w4.cell? ⟨gb145, 1, none⟩ = some (.int .i64 a0_1) := (blk_cell BK145.out 1).trans rfl; have hcz5_2 : w4.cell? ⟨gb145, 2, none⟩ = some (.int .i64 a0_2) := (blk_cell BK145.out 2).trans rfl; have hfz5_0 := blk_frozen BK145.out 0; have hfz5_1 := blk_frozen BK145.out 1; have hfz5_2 := blk_frozen BK145.out 2) | ((with_reducible refine gate_callee (f := 59) rfl ?_); refine goesL_ (some 4) rfl rfl Try.func59 (by kernel_rfl) rfl #[.agg #[.int .i64 a0_0, .int .i64 a0_1, .int .i64 a0_2]] rfl (by (try simp only [List.map_toArray, List.map_cons, List.map_nil]); first | done | rfl | (simp only [List.length_drop, List.length_take]; rfl)) ?_; (with_reducible refine (shape_Right.calls a0_0 a0_1 a0_2 true _ A2.out).mono ?_); rintro e w6 ⟨rfl, hb⟩; refine ⟨_, rfl, ?_⟩; have n0_ := Aside0.mk (blk_below (g := gb145) (o := .cells #[.int .i64 a0_0, .int .i64 a0_1, .int .i64 a0_2] 23 (0, 0)) (by (with_reducible repeat (first | refine blk_drewN ?_ _ | refine blk_drew ?_ | refine blk_alloc ?_ _)); exact BK145.out) hb); have n1_ := Aside0.mk (below_step (by repeat (first | (with_reducible first | exact HB.out | apply below_alloc | apply pw_below_drewN | apply below_drew1 | refine below_set ?_ GE145.out) | exact HB.out)) hb); clear BK145; clear HB; have BK145 := n0_; have HB := n1_; clear n0_ n1_; (try clear hb); (try clear hb2); (try clear hk); (try clear hi); have hcz7_0 : w6.cell? ⟨gb145, 0, none⟩ = some (.int .i64 a0_0) := (blk_cell BK145.out 0).trans rfl; have hcz7_1 : w6.cell? ⟨gb145, 1, none⟩ = some (.int .i64 a0_1) := (blk_cell BK145.out 1).trans rfl; have hcz7_2 : w6.cell? ⟨gb145, 2, none⟩ = some (.int .i64 a0_2) := (blk_cell BK145.out 2).trans rfl; have hfz7_0 := blk_frozen BK145.out 0; have hfz7_1 := blk_frozen BK145.out 1; have hfz7_2 := blk_frozen BK145.out 2))
    go_ret
    exact ⟨by first | rfl | (simp [errW_none, errW_some] <;> rfl) | (simp [*, errW_none, errW_some] <;> rfl), by repeat (first | (with_reducible first | exact HB.out | apply below_alloc | apply pw_below_drewN | apply below_drew1 | refine below_set ?_ GE145.out) | exact HB.out)⟩
  · replace c3 := Bool.eq_false_iff.mpr c3
    subst c3
    have H1 : (some 0) = some r := by rw [if_neg (show ¬ (false = true) by decide)] at H; exact H
    clear H
    have H := H1
    clear H1
    obtain rfl := Option.some.inj H
    go_enter Try.func40, Try.ntmps40
    go_wp2_with (first | ((with_reducible refine gate_dst (N := 1) rfl ?_); refine box_event ?hg (N := 1) ?hd (cs := #[.int .i64 a0_0, .int .i64 a0_1, .int .i64 a0_2]) (t := 23) ?hr ?_; (case hd => rfl); (case hg => rfl); (case hr => first | (go_simp; done) | (go_simp; rfl)); intro gb145 hg w8 hbox hb; have n0_ := Aside0.mk (below_step (by repeat (first | (with_reducible first | exact HB.out | apply below_alloc | apply pw_below_drewN | apply below_drew1) | exact HB.out)) hb); have n1_ := Aside0.mk (hbox); have n2_ := Aside0.mk ((by rw [hg]; exact (below_size (by repeat (first | (with_reducible first | exact HB.out | apply below_alloc | apply pw_below_drewN | apply below_drew1) | exact HB.out))) : w.heap.size ≤ gb145)); have n3_ := Aside0.mk ((by rw [hg]; exact (below_size (by repeat (first | (with_reducible first | exact HB.out | apply below_alloc | apply pw_below_drewN | apply below_drew1) | exact HB.out))) : w.heap.size ≤ gb145)); clear HB; have HB := n0_; have BK145 := n1_; have GW145 := n2_; have GE145 := n3_; clear n0_ n1_ n2_ n3_; clear hb hbox hg; have hcz9_0 : w8.cell? ⟨gb145, 0, none⟩ = some (.int .i64 a0_0) := (blk_cell BK145.out 0).trans rfl; have hcz9_1 : w8.cell? ⟨gb145, 1, none⟩ = some (.int .i64 a0_1) := (blk_cell BK145.out 1).trans rfl; have hcz9_2 : w8.cell? ⟨gb145, 2, none⟩ = some (.int .i64 a0_2) := (blk_cell BK145.out 2).trans rfl; have hfz9_0 := blk_frozen BK145.out 0; have hfz9_1 := blk_frozen BK145.out 1; have hfz9_2 := blk_frozen BK145.out 2) | ((with_reducible refine gate_callee (f := 59) rfl ?_); refine goesL_ (some 4) rfl rfl Try.func59 (by kernel_rfl) rfl #[.agg #[.int .i64 a0_0, .int .i64 a0_1, .int .i64 a0_2]] rfl (by (try simp only [List.map_toArray, List.map_cons, List.map_nil]); first | done | rfl | (simp only [List.length_drop, List.length_take]; rfl)) ?_; (with_reducible refine (shape_Right.calls a0_0 a0_1 a0_2 false _ A2.out).mono ?_); rintro e w10 ⟨rfl, hb⟩; refine ⟨_, rfl, ?_⟩; have n0_ := Aside0.mk (blk_below (g := gb145) (o := .cells #[.int .i64 a0_0, .int .i64 a0_1, .int .i64 a0_2] 23 (0, 0)) (by (with_reducible repeat (first | refine blk_drewN ?_ _ | refine blk_drew ?_ | refine blk_alloc ?_ _)); exact BK145.out) hb); have n1_ := Aside0.mk (below_step (by repeat (first | (with_reducible first | exact HB.out | apply below_alloc | apply pw_below_drewN | apply below_drew1 | refine below_set ?_ GE145.out) | exact HB.out)) hb); clear BK145; clear HB; have BK145 := n0_; have HB := n1_; clear n0_ n1_; (try clear hb); (try clear hb2); (try clear hk); (try clear hi)))
    go_ret
    exact ⟨by first | rfl | (simp [errW_none, errW_some] <;> rfl) | (simp [*, errW_none, errW_some] <;> rfl), by repeat (first | (with_reducible first | exact HB.out | apply below_alloc | apply pw_below_drewN | apply below_drew1 | refine below_set ?_ GE145.out) | exact HB.out)⟩

end Go.Proofs.Ytjegihodmidhoaa.G
namespace Go.Proofs.Ytjegihodmidhoaa.G
open Go.RowKit Go.Proofs.YtjegihodmidhoaaW.PrintWords Go.Proofs.YtjegihodmidhoaaW.PrintLast Go.Proofs.YtjegihodmidhoaaW.PrintMore
attribute [local go_sem] max2_int min2_int max_two min_two max_three min_three max_four min_four   -- for this text's walks alone
set_option linter.unusedVariables false
set_option linter.unusedSimpArgs false

/-! ### terms_look_dense: function 85 -/
def terms_look_dense.l0 : Nat → Int → List (S91) → Int → Int → Int → Int → Int → Int → Int → Int → Int → Int → Int → Int → Int → Int → Option ((List (S91)))
  | 0, _, _, _, _, _, _, _, _, _, _, _, _, _, _, _, _ => none
  | k + 1, x1, x5, x6, x11, x12, x379000, x379001, x379002, x379003, x379004, x379005, x379006, x379007, x379008, x379009, x379010 => if x12 < x11 then (if x5.length < 8796093022208 then (terms_look_dense.l0 k x1 (x5 ++ [(⟨x12, wrap64 ((wrap64 (x379010 + (wrap64 (x1 * x6)))) + x12)⟩ : S91)]) x6 x11 (wrap64 (x12 + 1)) x379000 x379001 x379002 x379003 x379004 x379005 x379006 x379007 x379008 x379009 x379010) else (none)) else (some x5)
def terms_look_dense.f (k : Nat) (a0_0 : Int) (a0_1 : Int) (a0_2 : Int) (a0_3 : Int) (a0_4 : Int) (a0_5 : Int) (a0_6 : Int) (a0_7 : Int) (a0_8 : Int) (a0_9 : Int) (a0_10 : Int) (a1 : Int) : Option ((List (S91))) := (shape_Size.f a0_4 a0_5 a0_6).bind fun t379 => (terms_look_dense.l0 k a1 ([] : List (S91)) t379 t379 0 a0_0 a0_1 a0_2 a0_3 a0_4 a0_5 a0_6 a0_7 a0_8 a0_9 a0_10)
theorem terms_look_dense.mono_l : ∀ k, (∀ y0 y1 y2 y3 y4 y5 y6 y7 y8 y9 y10 y11 y12 y13 y14 y15, LeO (terms_look_dense.l0 k y0 y1 y2 y3 y4 y5 y6 y7 y8 y9 y10 y11 y12 y13 y14 y15) (terms_look_dense.l0 (k + 1) y0 y1 y2 y3 y4 y5 y6 y7 y8 y9 y10 y11 y12 y13 y14 y15))
  | 0 => fun _ _ _ _ _ _ _ _ _ _ _ _ _ _ _ _ r h => by simp [terms_look_dense.l0] at h
  | k + 1 => by
    have ih0 := terms_look_dense.mono_l k
    · intro y0 y1 y2 y3 y4 y5 y6 y7 y8 y9 y10 y11 y12 y13 y14 y15
      unfold terms_look_dense.l0
      repeat' first
      | (with_reducible exact ih0 _ _ _ _ _ _ _ _ _ _ _ _ _ _ _ _)
      | (with_reducible exact LeO.refl _)
      | (with_reducible exact LeO.none _)
      | (with_reducible refine LeO.ite ?_ ?_)
      | (with_reducible refine LeO.bind ?_ (fun _ => ?_))
      | exact ih0 _ _ _ _ _ _ _ _ _ _ _ _ _ _ _ _
      | exact LeO.none _
      | refine LeO.ite ?_ ?_
      | refine LeO.bind ?_ (fun _ => ?_)
theorem terms_look_dense.mono : ∀ a0 a1 a2 a3 a4 a5 a6 a7 a8 a9 a10 a11 k, LeO (terms_look_dense.f k a0 a1 a2 a3 a4 a5 a6 a7 a8 a9 a10 a11) (terms_look_dense.f (k + 1) a0 a1 a2 a3 a4 a5 a6 a7 a8 a9 a10 a11) := by
  intro a0 a1 a2 a3 a4 a5 a6 a7 a8 a9 a10 a11 k
  have ih0 := terms_look_dense.mono_l k
  unfold terms_look_dense.f
  repeat' first
      | (with_reducible exact ih0 _ _ _ _ _ _ _ _ _ _ _ _ _ _ _ _)
      | (with_reducible exact LeO.refl _)
      | (with_reducible exact LeO.none _)
      | (with_reducible refine LeO.ite ?_ ?_)
      | (with_reducible refine LeO.bind ?_ (fun _ => ?_))
      | exact ih0 _ _ _ _ _ _ _ _ _ _ _ _ _ _ _ _
      | exact LeO.none _
      | refine LeO.ite ?_ ?_
      | refine LeO.bind ?_ (fun _ => ?_)
set_option maxHeartbeats 8000000 in
set_option maxRecDepth 100000 in
theorem terms_look_dense.calls (k : Nat) (a0_0 : Int) (a0_1 : Int) (a0_2 : Int) (a0_3 : Int) (a0_4 : Int) (a0_5 : Int) (a0_6 : Int) (a0_7 : Int) (a0_8 : Int) (a0_9 : Int) (a0_10 : Int) (a1 : Int) (r : List (S91)) (w : World) (h : terms_look_dense.f k a0_0 a0_1 a0_2 a0_3 a0_4 a0_5 a0_6 a0_7 a0_8 a0_9 a0_10 a1 = some r) :
    Calls Try.prog 85 #[.agg #[.int .i64 a0_0, .int .i64 a0_1, .int .i64 a0_2, .int .i64 a0_3, .int .i64 a0_4, .int .i64 a0_5, .int .i64 a0_6, .int .i64 a0_7, .int .i64 a0_8, .int .i64 a0_9, .int .i64 a0_10], .int .i64 a1] w fun e w' => ∃ v0_ : Value, e = .returned (v0_) ∧ Kd.R k91 91 w' w.heap.size (fun _ => True) v0_ r ∧ Below w.heap.size w w' := by
  have hu134 := Try.underlying134
  have hu23 := Try.underlying23
  have hu91 := Try.underlying91
  have HB := Aside0.mk (Below.refl w.heap.size w)
  have H : ((shape_Size.f a0_4 a0_5 a0_6).bind fun t379 => (terms_look_dense.l0 k a1 ([] : List (S91)) t379 t379 0 a0_0 a0_1 a0_2 a0_3 a0_4 a0_5 a0_6 a0_7 a0_8 a0_9 a0_10)) = some r := h
  clear h
  replace H := Option.bind_eq_some_iff.mp H
  obtain ⟨t379, A30, H⟩ := H
  replace H : (terms_look_dense.l0 k a1 ([] : List (S91)) t379 t379 0 a0_0 a0_1 a0_2 a0_3 a0_4 a0_5 a0_6 a0_7 a0_8 a0_9 a0_10) = some r := H
  have A3 := Aside0.mk A30
  clear A30
  have H' := Aside0.mk H
  clear H
  go_enter Try.func85, Try.ntmps85
  go_wp2_with (first | ((with_reducible refine gate_dst (N := 2) rfl ?_); refine box_event ?hg (N := 2) ?hd (cs := #[.int .i64 a0_0, .int .i64 a0_1, .int .i64 a0_2, .int .i64 a0_3, .int .i64 a0_4, .int .i64 a0_5, .int .i64 a0_6, .int .i64 a0_7, .int .i64 a0_8, .int .i64 a0_9, .int .i64 a0_10]) (t := 134) ?hr ?_; (case hd => rfl); (case hg => rfl); (case hr => first | (go_simp; done) | (go_simp; rfl)); intro gb378 hg w4 hbox hb; have n0_ := Aside0.mk (below_step (by repeat (first | (with_reducible first | exact HB.out | apply below_alloc | apply pw_below_drewN | apply below_drew1) | exact HB.out)) hb); have n1_ := Aside0.mk (hbox); have n2_ := Aside0.mk ((by rw [hg]; exact (below_size (by repeat (first | (with_reducible first | exact HB.out | apply below_alloc | apply pw_below_drewN | apply below_drew1) | exact HB.out))) : w.heap.size ≤ gb378)); have n3_ := Aside0.mk ((by rw [hg]; exact (below_size (by repeat (first | (with_reducible first | exact HB.out | apply below_alloc | apply pw_below_drewN | apply below_drew1) | exact HB.out))) : w.heap.size ≤ gb378)); clear HB; have HB := n0_; have BK378 := n1_; have GW378 := n2_; have GE378 := n3_; clear n0_ n1_ n2_ n3_; clear hb hbox hg; have hcz5_0 : w4.cell? ⟨gb378, 0, none⟩ = some (.int .i64 a0_0) := (blk_cell BK378.out 0).trans rfl; have hcz5_1 : w4.cell? ⟨gb378, 1, none⟩ = some (.int .i64 a0_1) := (blk_cell BK378.out 1).trans rfl; have hcz5_2 : w4.cell? ⟨gb378, 2, none⟩ = some (.int .i64 a0_2) := (blk_cell BK378.out 2).trans rfl; have hcz5_3 : w4.cell? ⟨gb378, 3, none⟩ = some (.int .i64 a0_3) := (blk_cell BK378.out 3).trans rfl; have hcz5_4 : w4.cell? ⟨gb378, 4, none⟩ = some (.int .i64 a0_4) := (blk_cell BK378.out 4).trans rfl; have hcz5_5 : w4.cell? ⟨gb378, 5, none⟩ = some (.int .i64 a0_5) := (blk_cell BK378.out 5).trans rfl; have hcz5_6 : w4.cell? ⟨gb378, 6, none⟩ = some (.int .i64 a0_6) := (blk_cell BK378.out 6).trans rfl; have hcz5_7 : w4.cell? ⟨gb378, 7, none⟩ = some (.int .i64 a0_7) := (blk_cell BK378.out 7).trans rfl; have hcz5_8 : w4.cell? ⟨gb378, 8, none⟩ = some (.int .i64 a0_8) := (blk_cell BK378.out 8).trans rfl; have hcz5_9 : w4.cell? ⟨gb378, 9, none⟩ = some (.int .i64 a0_9) := (blk_cell BK378.out 9).trans rfl; have hcz5_10 : w4.cell? ⟨gb378, 10, none⟩ = some (.int .i64 a0_10) := (blk_cell BK378.out 10).trans rfl; have hfz5_0 := blk_frozen BK378.out 0; have hfz5_1 := blk_frozen BK378.out 1; have hfz5_2 := blk_frozen BK378.out 2; have hfz5_3 := blk_frozen BK378.out 3; have hfz5_4 := blk_frozen BK378.out 4; have hfz5_5 := blk_frozen BK378.out 5; have hfz5_6 := blk_frozen BK378.out 6; have hfz5_7 := blk_frozen BK378.out 7; have hfz5_8 := blk_frozen BK378.out 8; have hfz5_9 := blk_frozen BK378.out 9; have hfz5_10 := blk_frozen BK378.out 10) | ((with_reducible refine gate_callee (f := 40) rfl ?_); refine goesL_ (some 10) rfl rfl Try.func40 (by kernel_rfl) rfl #[.agg #[.int .i64 a0_4, .int .i64 a0_5, .int .i64 a0_6]] rfl (by (try simp only [List.map_toArray, List.map_cons, List.map_nil]); first | done | rfl | (simp only [List.length_drop, List.length_take]; rfl)) ?_; (with_reducible refine (shape_Size.calls a0_4 a0_5 a0_6 t379 _ A3.out).mono ?_); rintro e w6 ⟨rfl, hb⟩; refine ⟨_, rfl, ?_⟩; have n0_ := Aside0.mk (blk_below (g := gb378) (o := .cells #[.int .i64 a0_0, .int .i64 a0_1, .int .i64 a0_2, .int .i64 a0_3, .int .i64 a0_4, .int .i64 a0_5, .int .i64 a0_6, .int .i64 a0_7, .int .i64 a0_8, .int .i64 a0_9, .int .i64 a0_10] 134 (0, 0)) (by (with_reducible repeat (first | refine blk_drewN ?_ _ | refine blk_drew ?_ | refine blk_alloc ?_ _)); exact BK378.out) hb); have n1_ := Aside0.mk (below_step (by repeat (first | (with_reducible first | exact HB.out | apply below_alloc | apply pw_below_drewN | apply below_drew1 | refine below_set ?_ GE378.out) | exact HB.out)) hb); clear BK378; clear HB; have BK378 := n0_; have HB := n1_; clear n0_ n1_; (try clear hb); (try clear hb2); (try clear hk); (try clear hi)))
  go_loopg [5, 12] k (fun kq v5 v12 w' => ∃ (x5_1 : List (S91)) (x12_1 : Int), v12 = .int .i64 x12_1 ∧ Aside0 (terms_look_dense.l0 kq a1 x5_1 t379 t379 x12_1 a0_0 a0_1 a0_2 a0_3 a0_4 a0_5 a0_6 a0_7 a0_8 a0_9 a0_10 = some r) ∧ Aside0 (kq ≤ k) ∧ Aside0 (Kd.R k91 91 w' w.heap.size (fun _ => True) v5 x5_1) ∧ Aside0 (w'.heap[gb378]? = some (.cells #[.int .i64 a0_0, .int .i64 a0_1, .int .i64 a0_2, .int .i64 a0_3, .int .i64 a0_4, .int .i64 a0_5, .int .i64 a0_6, .int .i64 a0_7, .int .i64 a0_8, .int .i64 a0_9, .int .i64 a0_10] 134 (0, 0))) ∧ Aside0 (Below w.heap.size w w'))
  case atStart => exact ⟨(([] : List (S91))), (0), (by first | rfl | (simp; done) | (simp [*]; done)), H', ⟨Nat.le_refl _⟩, ⟨by first | exact Kd.R_nil _ _ _ _ _ | exact Kd.N_nil _ _ _ _ _ | exact Kd.V_nil _ _ _ _ _ | exact Kd.Q_nil _ _ _ _ _ | exact Kd.S_nil _ _ _ _ _⟩, ⟨by (with_reducible repeat (first | refine blk_drewN ?_ _ | refine blk_drew ?_ | refine blk_alloc ?_ _)); exact BK378.out⟩, ⟨by repeat (first | (with_reducible first | exact HB.out | apply below_alloc | apply pw_below_drewN | apply below_drew1 | refine below_set ?_ GE378.out) | exact HB.out)⟩⟩
  case round =>
    clear H'
    try clear p2
    try clear c4
    try clear hcz5_0
    try clear hcz5_1
    try clear hcz5_10
    try clear hcz5_2
    try clear hcz5_3
    try clear hcz5_4
    try clear hcz5_5
    try clear hcz5_6
    try clear hcz5_7
    try clear hcz5_8
    try clear hcz5_9
    try clear hfz5_0
    try clear hfz5_1
    try clear hfz5_10
    try clear hfz5_2
    try clear hfz5_3
    try clear hfz5_4
    try clear hfz5_5
    try clear hfz5_6
    try clear hfz5_7
    try clear hfz5_8
    try clear hfz5_9
    obtain ⟨x5_1, x12_1, rfl, HA, HK1, HO_5, BK378, HB⟩ := hrel
    cases gk with
    | zero => exact absurd HA.out (by simp [terms_look_dense.l0])
    | succ k1 =>
      have H := HA.out
      clear HA
      simp only [terms_look_dense.l0] at H
      by_cases c7 : x12_1 < t379
      · rw [if_pos c7] at H
        have c7b0 : decide (x12_1 < t379) = true := decide_eq_true c7
        clear c7
        by_cases c8 : x5_1.length < 8796093022208
        · rw [if_pos c8] at H
          have LMc8 := Aside0.mk c8
          clear c8
          obtain ⟨y380, hy380⟩ : ∃ y_ : List (S91), y_ = (x5_1 ++ [(⟨x12_1, wrap64 ((wrap64 (a0_10 + (wrap64 (a1 * t379)))) + x12_1)⟩ : S91)]) := ⟨_, rfl⟩
          replace H : (terms_look_dense.l0 k1 a1 y380 t379 t379 (wrap64 (x12_1 + 1)) a0_0 a0_1 a0_2 a0_3 a0_4 a0_5 a0_6 a0_7 a0_8 a0_9 a0_10) = some r := by first | (rw [hy380]; with_reducible exact H) | (have H2_ := (Option.bind_some _ _).symm.trans H; rw [hy380]; with_reducible exact H2_) | (have H2_ := (Option.bind_some _ _).symm.trans H; with_reducible exact H2_) | with_reducible exact H | (rw [hy380]; exact H) | exact H
          have Ny380 := Aside0.mk hy380
          clear hy380
          have H' := Aside0.mk H
          clear H
          have hcz9_0 : wr.cell? ⟨gb378, 0, none⟩ = some (.int .i64 a0_0) := (blk_cell BK378.out 0).trans rfl
          have hcz9_1 : wr.cell? ⟨gb378, 1, none⟩ = some (.int .i64 a0_1) := (blk_cell BK378.out 1).trans rfl
          have hcz9_2 : wr.cell? ⟨gb378, 2, none⟩ = some (.int .i64 a0_2) := (blk_cell BK378.out 2).trans rfl
          have hcz9_3 : wr.cell? ⟨gb378, 3, none⟩ = some (.int .i64 a0_3) := (blk_cell BK378.out 3).trans rfl
          have hcz9_4 : wr.cell? ⟨gb378, 4, none⟩ = some (.int .i64 a0_4) := (blk_cell BK378.out 4).trans rfl
          have hcz9_5 : wr.cell? ⟨gb378, 5, none⟩ = some (.int .i64 a0_5) := (blk_cell BK378.out 5).trans rfl
          have hcz9_6 : wr.cell? ⟨gb378, 6, none⟩ = some (.int .i64 a0_6) := (blk_cell BK378.out 6).trans rfl
          have hcz9_7 : wr.cell? ⟨gb378, 7, none⟩ = some (.int .i64 a0_7) := (blk_cell BK378.out 7).trans rfl
          have hcz9_8 : wr.cell? ⟨gb378, 8, none⟩ = some (.int .i64 a0_8) := (blk_cell BK378.out 8).trans rfl
          have hcz9_9 : wr.cell? ⟨gb378, 9, none⟩ = some (.int .i64 a0_9) := (blk_cell BK378.out 9).trans rfl
          have hcz9_10 : wr.cell? ⟨gb378, 10, none⟩ = some (.int .i64 a0_10) := (blk_cell BK378.out 10).trans rfl
          have hfz9_0 := blk_frozen BK378.out 0
          have hfz9_1 := blk_frozen BK378.out 1
          have hfz9_2 := blk_frozen BK378.out 2
          have hfz9_3 := blk_frozen BK378.out 3
          have hfz9_4 := blk_frozen BK378.out 4
          have hfz9_5 := blk_frozen BK378.out 5
          have hfz9_6 := blk_frozen BK378.out 6
          have hfz9_7 := blk_frozen BK378.out 7
          have hfz9_8 := blk_frozen BK378.out 8
          have hfz9_9 := blk_frozen BK378.out 9
          have hfz9_10 := blk_frozen BK378.out 10
          go_wp2_with (first | ((with_reducible refine gate_builtin (b := .append) (xs := #[.tmp 15, .tmp 26]) rfl ?_); at_builtin; refine Kd.R_append k91 (w0 := w) w.heap.size rfl (.tmp 15) (.tmp 26) 88 91 (.agg #[(.int .i64 0), (.int .i64 0)]) 16 rfl Try.underlying88 info91 rfl (by decide) (by omega) u5 x5_1 (⟨x12_1, wrap64 ((wrap64 (a0_10 + (wrap64 (a1 * t379)))) + x12_1)⟩ : S91) [.int .i64 x12_1, .int .i64 (wrap64 ((wrap64 (a0_10 + (wrap64 (a1 * t379)))) + x12_1))] (fun _ => True) (fun _ => False) rfl rfl ?aP (fun _ hk => hk.elim) ?aF ?aO ?aB ?aS ?aL ?_; (case aP => exact k91_mkM _ _ _ (⟨x12_1, wrap64 ((wrap64 (a0_10 + (wrap64 (a1 * t379)))) + x12_1)⟩ : S91)); (case aB => exact (by repeat (first | (with_reducible first | exact HB.out | apply below_alloc | apply pw_below_drewN | apply below_drew1 | refine below_set ?_ GE378.out) | exact HB.out))); (case aF => exact (fun _ _ => trivial)); (case aO => exact (by (with_reducible repeat (first | apply Kd.R_alloc | apply Kd.R_drewN | apply Kd.R_drew)); exact HO_5.out)); (case aS => exact (below_size (by repeat (first | (with_reducible first | exact HB.out | apply below_alloc | apply pw_below_drewN | apply below_drew1 | refine below_set ?_ GE378.out) | exact HB.out)))); (case aL => have := LMc8.out; omega); intro v381 w10 ho hb hg hat; rw [← Ny380.out] at ho; have n0_ := Aside0.mk (blk_grown (g := gb378) (o := .cells #[.int .i64 a0_0, .int .i64 a0_1, .int .i64 a0_2, .int .i64 a0_3, .int .i64 a0_4, .int .i64 a0_5, .int .i64 a0_6, .int .i64 a0_7, .int .i64 a0_8, .int .i64 a0_9, .int .i64 a0_10] 134 (0, 0)) (by (with_reducible repeat (first | refine blk_drewN ?_ _ | refine blk_drew ?_ | refine blk_alloc ?_ _)); exact BK378.out) hg (Kd.R_ne HO_5.out BK378.out (by decide))); have n1_ := Aside0.mk (hb); have n2_ := Aside0.mk (ho); clear BK378; clear HB; clear HO_5; have BK378 := n0_; have HB := n1_; have HO382 := n2_; clear n0_ n1_ n2_; clear ho hb hg hat))
          go_roundg k1
          case measure => have := HK1.out; omega
          case rel => exact ⟨(y380), (wrap64 (x12_1 + 1)), (by first | rfl | (simp; done) | (simp [*]; done)), H', ⟨by have := HK1.out; omega⟩, ⟨by (with_reducible repeat (first | apply Kd.R_alloc | apply Kd.R_drewN | apply Kd.R_drew)); exact HO382.out⟩, ⟨by (with_reducible repeat (first | refine blk_drewN ?_ _ | refine blk_drew ?_ | refine blk_alloc ?_ _)); exact BK378.out⟩, ⟨by repeat (first | (with_reducible first | exact HB.out | apply below_alloc | apply pw_below_drewN | apply below_drew1 | refine below_set ?_ GE378.out) | exact HB.out)⟩⟩
        · rw [if_neg c8] at H
          exact absurd H (by simp)
      · rw [if_neg c7] at H
        have c7b0 : decide (x12_1 < t379) = false := decide_eq_false c7
        clear c7
        obtain rfl := Option.some.inj H
        go_wp2
        go_ret
        exact ⟨_, by first | rfl | (simp [errW_none, errW_some] <;> rfl) | (simp [*, errW_none, errW_some] <;> rfl), by (with_reducible repeat (first | apply Kd.R_alloc | apply Kd.R_drewN | apply Kd.R_drew)); exact HO_5.out, by repeat (first | (with_reducible first | exact HB.out | apply below_alloc | apply pw_below_drewN | apply below_drew1 | refine below_set ?_ GE378.out) | exact HB.out)⟩

end Go.Proofs.Ytjegihodmidhoaa.G
namespace Go.Proofs.Ytjegihodmidhoaa.G
open Go.RowKit Go.Proofs.YtjegihodmidhoaaW.PrintWords Go.Proofs.YtjegihodmidhoaaW.PrintLast Go.Proofs.YtjegihodmidhoaaW.PrintMore
set_option linter.unusedVariables false
set_option linter.unusedSimpArgs false

def wiB (n a b : Int) : Bool := decide (a ≤ n) && decide (n ≤ b)
theorem within_calls (n a b : Int) (w : World) :
    Calls Try.prog 72 #[.int .i64 n, .int .i64 a, .int .i64 b] w fun e w' => e = .returned (.bool (wiB n a b)) ∧ w = w' := by
  unfold wiB
  by_cases h1 : a ≤ n
  · by_cases h2 : n ≤ b
    · go_enter Try.func72, Try.ntmps72
      go_wp2
      go_ret
      simp [h1, h2]
    · go_enter Try.func72, Try.ntmps72
      go_wp2
      go_ret
      simp [h2]
  · go_enter Try.func72, Try.ntmps72
    go_wp2
    go_ret
    simp
    omega

/-- A side of a convolution's picture. -/
def sideC (size step n : Int) : Int := if wiB size 1 n = true ∧ wiB step 1 12 = true then (n - size) / step + 1 else 0
set_option maxHeartbeats 1000000 in
theorem conv1_calls (n size step : Int) (p q : Nat) (w : World) (hn : 0 ≤ n ∧ n ≤ 12) (hp : w.cell? ⟨p, 0, none⟩ = some (.int .i64 size)) (hq : w.cell? ⟨q, 0, none⟩ = some (.int .i64 step)) :
    Calls Try.prog 91 #[.int .i64 n, .pointer (some ⟨p, 0, none⟩), .pointer (some ⟨q, 0, none⟩)] w fun e w' => e = .returned (.int .i64 (sideC size step n)) ∧ w = w' := by
  obtain ⟨hn1, hn2⟩ := hn
  by_cases h1 : wiB size 1 n = true
  · have hs1 : 1 ≤ size := by simp [wiB] at h1; omega
    have hs2 : size ≤ n := by simp [wiB] at h1; omega
    by_cases h2 : wiB step 1 12 = true
    · have ht1 : 1 ≤ step := by simp [wiB] at h2; omega
      have ht2 : step ≤ 12 := by simp [wiB] at h2; omega
      have hd : (n - size) / step ≤ 12 := Int.le_trans (Int.ediv_le_self _ (by omega)) (by omega)
      have hd0 : 0 ≤ (n - size) / step := Int.ediv_nonneg (by omega) (by omega)
      have hsd : sideC size step n = (n - size) / step + 1 := by simp [sideC, h1, h2]
      have HS := Aside0.mk hsd
      clear hsd
      go_enter Try.func91, Try.ntmps91
      go_wp2_with (go_at_call 72; refine (within_calls _ _ _ _).mono ?_; rintro e w' ⟨rfl, rfl⟩)
      go_ret
      exact ⟨by rw [HS.out]; rfl, rfl⟩
    · replace h2 := Bool.eq_false_iff.mpr h2
      have hsd : sideC size step n = 0 := by simp [sideC, h2]
      have HS := Aside0.mk hsd
      clear hsd
      go_enter Try.func91, Try.ntmps91
      go_wp2_with (go_at_call 72; refine (within_calls _ _ _ _).mono ?_; rintro e w' ⟨rfl, rfl⟩)
      go_ret
      exact ⟨by rw [HS.out]; rfl, rfl⟩
  · replace h1 := Bool.eq_false_iff.mpr h1
    have hsd : sideC size step n = 0 := by simp [sideC, h1]
    have HS := Aside0.mk hsd
    clear hsd
    go_enter Try.func91, Try.ntmps91
    go_wp2_with (go_at_call 72; refine (within_calls _ _ _ _).mono ?_; rintro e w' ⟨rfl, rfl⟩)
    go_ret
    exact ⟨by rw [HS.out]; rfl, rfl⟩
/-- A side of a pool's picture. -/
def sideP (size n : Int) : Int := if size < 1 then 0 else if n % size = 0 then n / size else 0
set_option maxHeartbeats 1000000 in
theorem pool1_calls (n size : Int) (p : Nat) (w : World) (hn : 0 ≤ n ∧ n ≤ 12) (hs : size ≤ 999999) (hp : w.cell? ⟨p, 0, none⟩ = some (.int .i64 size)) :
    Calls Try.prog 92 #[.int .i64 n, .pointer (some ⟨p, 0, none⟩)] w fun e w' => e = .returned (.int .i64 (sideP size n)) ∧ w = w' := by
  obtain ⟨hn1, hn2⟩ := hn
  by_cases h1 : size < 1
  · have hsd : sideP size n = 0 := by simp [sideP, h1]
    have HS := Aside0.mk hsd
    clear hsd
    go_enter Try.func92, Try.ntmps92
    go_wp2
    go_ret
    exact ⟨by rw [HS.out]; rfl, rfl⟩
  · have hs1 : 1 ≤ size := by omega
    have hz : (size == 0) = false := by simp; omega
    have hd : n / size ≤ 12 := Int.le_trans (Int.ediv_le_self _ (by omega)) (by omega)
    have hd0 : 0 ≤ n / size := Int.ediv_nonneg (by omega) (by omega)
    by_cases h2 : n % size = 0
    · have hsd : sideP size n = n / size := by simp [sideP, h1, h2]
      have HS := Aside0.mk hsd
      have h2b : (n % size != 0) = false := by simp [h2]
      clear hsd h2
      go_enter Try.func92, Try.ntmps92
      go_wp2
      go_ret
      exact ⟨by rw [HS.out]; rfl, rfl⟩
    · have hsd : sideP size n = 0 := by simp [sideP, h1, h2]
      have HS := Aside0.mk hsd
      have h2b : (n % size != 0) = true := by simp [h2]
      clear hsd h2
      go_enter Try.func92, Try.ntmps92
      go_wp2
      go_ret
      exact ⟨by rw [HS.out]; rfl, rfl⟩

theorem blks3 (w : World) (A B C : Obj) : (((w.alloc A).alloc B).alloc C).heap[w.heap.size + 1 + 1]? = some C ∧ (((w.alloc A).alloc B).alloc C).heap[w.heap.size + 1]? = some B ∧ (((w.alloc A).alloc B).alloc C).heap[w.heap.size]? = some A := by
  refine ⟨?_, ?_, ?_⟩ <;> simp only [World.alloc, Array.getElem?_push, Array.size_push] <;> (repeat' split) <;> first | rfl | omega | (exfalso; simp_all; done) | (exfalso; simp_all; omega)
theorem cells3 {w : World} {g : Nat} {x y z : Value} {t : TypeId} (h : w.heap[g]? = some (.cells #[x, y, z] t (0, 0))) : (w.cell? ⟨g, 0, none⟩ = some x ∧ w.cell? ⟨g, 1, none⟩ = some y ∧ w.cell? ⟨g, 2, none⟩ = some z) ∧ w.frozen? ⟨g, 0, none⟩ = false ∧ w.frozen? ⟨g, 1, none⟩ = false ∧ w.frozen? ⟨g, 2, none⟩ = false :=
  ⟨⟨(blk_cell h 0).trans rfl, (blk_cell h 1).trans rfl, (blk_cell h 2).trans rfl⟩, blk_frozen h 0, blk_frozen h 1, blk_frozen h 2⟩
theorem within_eq (n a b : Int) : shape_within.f n a b = some (wiB n a b) := by
  unfold shape_within.f wiB
  split <;> simp [*] <;> omega
/-- May a shape be so? -/
def shR (a b c : Int) : Bool := wiB a 1 8 && (wiB b 1 12 && (wiB c 1 12 && decide (wrap64 (wrap64 (a * b) * c) ≤ 128)))
theorem right_eq (a b c : Int) : shape_Right.f a b c = some (shR a b c) := by
  unfold shape_Right.f shR
  simp only [within_eq, Option.bind_some]
  cases wiB a 1 8 <;> cases wiB b 1 12 <;> cases wiB c 1 12 <;> simp

/-- What `sized` hands back: the shape of these sides, if it is right. -/
def SizedPost (w : World) (ch a b : Int) (e : Ending) (w' : World) : Prop :=
  e = .returned (.tuple #[if shR ch a b = true then .agg #[.int .i64 ch, .int .i64 a, .int .i64 b] else .agg #[.int .i64 0, .int .i64 0, .int .i64 0], .bool (shR ch a b)]) ∧ Below w.heap.size w w'
def SizedMid (w : World) (c h d ch a b : Int) (s8 : Value) (wx : World) : Prop :=
  ∃ g : Nat, s8 = .pointer (some ⟨g, 0, none⟩) ∧ w.heap.size + 1 < g ∧ wx.heap[g]? = some (.cells #[.int .i64 ch, .int .i64 a, .int .i64 b] 23 (0, 0)) ∧
    wx.heap[w.heap.size]? = some (.cells #[.int .i64 c, .int .i64 h, .int .i64 d] 23 (0, 0)) ∧ wx.heap[w.heap.size + 1]? = some (.cells #[.int .i64 0, .int .i64 0, .int .i64 0] 23 (0, 0)) ∧ Below w.heap.size w wx

set_option maxRecDepth 100000 in
set_option maxHeartbeats 4000000 in
theorem sized_conv (c h d ch size step : Int) (p q : Nat) (w : World) (hR : shR c h d = true) (hh : 0 ≤ h ∧ h ≤ 12) (hd : 0 ≤ d ∧ d ≤ 12) (hp : w.cell? ⟨p, 0, none⟩ = some (.int .i64 size)) (hq : w.cell? ⟨q, 0, none⟩ = some (.int .i64 step)) :
    Calls Try.prog 90 #[.agg #[.int .i64 c, .int .i64 h, .int .i64 d], .int .i64 ch, .func (.func 91) #[] #[.pointer (some ⟨p, 0, none⟩), .pointer (some ⟨q, 0, none⟩)]] w fun e w' => SizedPost w ch (sideC size step h) (sideC size step d) e w' := by
  have hu23 := Try.underlying23
  have HP := Aside0.mk hp
  have HQ := Aside0.mk hq
  clear hp hq
  have HR := Aside0.mk hR
  clear hR
  obtain ⟨hh1, hh2⟩ := hh
  obtain ⟨hd1, hd2⟩ := hd
  go_enter Try.func90, Try.ntmps90
  go_upto_region 1 with fail
  go_cut [8] (fun s8 wx => SizedMid w c h d ch (sideC size step h) (sideC size step d) s8 wx)
  case first =>
    have hpl := World.block_lt_of_cell? w _ HP.out
    have hql := World.block_lt_of_cell? w _ HQ.out
    go_region_held3 (fun w' => w'.cell? ⟨w.heap.size, 1, none⟩ = some (.int .i64 h) ∧ w'.cell? ⟨w.heap.size, 2, none⟩ = some (.int .i64 d) ∧ w'.cell? ⟨p, 0, none⟩ = some (.int .i64 size) ∧ w'.cell? ⟨q, 0, none⟩ = some (.int .i64 step)) (first | (exact ⟨by (go_simp; done), by (go_simp; done), pw_cell_below (w := w) (by repeat (first | exact Below.refl _ _ | apply below_alloc | apply pw_below_drewN | apply below_drew)) HP.out, pw_cell_below (w := w) (by repeat (first | exact Below.refl _ _ | apply below_alloc | apply pw_below_drewN | apply below_drew)) HQ.out⟩) | go_keep)
      (first | (go_at_call 91; refine (conv1_calls _ size step p q _ (by omega) ?_ ?_).mono ?_; (simp [*]); (simp [*]); rintro e w' ⟨rfl, rfl⟩))
    all_goals
      go_wp2_with fail
      go_meet
      exact ⟨w.heap.size + 1 + 1, rfl, by omega, (blks3 w _ _ _).1, (blks3 w _ _ _).2.2, (blks3 w _ _ _).2.1, by repeat (first | exact Below.refl _ _ | apply below_alloc | apply pw_below_drewN | apply below_drew)⟩
  case rest =>
    obtain ⟨g, rfl, hg, hg0, hs0, hr0, hB⟩ := hcut
    have hgs : ¬ g = w.heap.size := by omega
    have hgr : ¬ g = w.heap.size + 1 := by omega
    obtain ⟨⟨s0, s1, s2⟩, _, _, _⟩ := cells3 hs0
    go_wp2_with fail
    refine (shape_Right.calls c h d true _ ((right_eq c h d).trans (congrArg some HR.out))).mono ?_
    rintro e w1 ⟨rfl, hb1⟩
    clear s0 s1 s2
    have hg1 := Aside0.mk (blk_below hg0 hb1)
    have hr1 := Aside0.mk (blk_below hr0 hb1)
    have HB1 := Aside0.mk (below_then hB hB.size hb1)
    clear hg0 hs0 hr0 hb1
    obtain ⟨⟨s0, s1, s2⟩, _, _, _⟩ := cells3 hg1.out
    go_wp2_with fail
    refine (shape_Right.calls ch (sideC size step h) (sideC size step d) _ _ (right_eq _ _ _)).mono ?_
    rintro e w2 ⟨rfl, hb2⟩
    clear s0 s1 s2
    have hg2 := blk_below hg1.out hb2
    have hr2 := blk_below hr1.out hb2
    have HB2 := Aside0.mk (below_then HB1.out HB1.out.size hb2)
    clear hg1 hr1 HB1 hb2
    obtain ⟨⟨s0, s1, s2⟩, f0, f1, f2⟩ := cells3 hg2
    obtain ⟨⟨r0, r1, r2⟩, q0, q1, q2⟩ := cells3 hr2
    clear hg2 hr2
    generalize ht : shR ch (sideC size step h) (sideC size step d) = t
    have HT := Aside0.mk ht
    clear ht
    cases t
    · go_wp2_with fail
      refine bodyPost_ret (v := .tuple #[.agg #[.int .i64 0, .int .i64 0, .int .i64 0], .bool false]) (by simp [results, Try.results90, go_sem, r0, r1, r2]) rfl ⟨by rw [HT.out]; rfl, ?_⟩
      exact ((HB2.out.setCell (p := ⟨w.heap.size + 1, 0, none⟩) (by simp) _).setCell (p := ⟨w.heap.size + 1, 1, none⟩) (by simp) _).setCell (p := ⟨w.heap.size + 1, 2, none⟩) (by simp) _
    · go_wp2_with fail
      refine bodyPost_ret (v := .tuple #[.agg #[.int .i64 ch, .int .i64 (sideC size step h), .int .i64 (sideC size step d)], .bool true]) (by simp [results, Try.results90, go_sem, r0, r1, r2]) rfl ⟨by rw [HT.out]; rfl, ?_⟩
      exact ((HB2.out.setCell (p := ⟨w.heap.size + 1, 0, none⟩) (by simp) _).setCell (p := ⟨w.heap.size + 1, 1, none⟩) (by simp) _).setCell (p := ⟨w.heap.size + 1, 2, none⟩) (by simp) _

set_option maxRecDepth 100000 in
set_option maxHeartbeats 4000000 in
theorem sized_pool (c h d ch size : Int) (p : Nat) (w : World) (hR : shR c h d = true) (hh : 0 ≤ h ∧ h ≤ 12) (hd : 0 ≤ d ∧ d ≤ 12) (hp : w.cell? ⟨p, 0, none⟩ = some (.int .i64 size)) (hs : size ≤ 999999) :
    Calls Try.prog 90 #[.agg #[.int .i64 c, .int .i64 h, .int .i64 d], .int .i64 ch, .func (.func 92) #[] #[.pointer (some ⟨p, 0, none⟩)]] w fun e w' => SizedPost w ch (sideP size h) (sideP size d) e w' := by
  have hu23 := Try.underlying23
  have HP := Aside0.mk hp
  clear hp
  have HR := Aside0.mk hR
  clear hR
  obtain ⟨hh1, hh2⟩ := hh
  obtain ⟨hd1, hd2⟩ := hd
  go_enter Try.func90, Try.ntmps90
  go_upto_region 1 with fail
  go_cut [8] (fun s8 wx => SizedMid w c h d ch (sideP size h) (sideP size d) s8 wx)
  case first =>
    have hpl := World.block_lt_of_cell? w _ HP.out
    go_region_held3 (fun w' => w'.cell? ⟨w.heap.size, 1, none⟩ = some (.int .i64 h) ∧ w'.cell? ⟨w.heap.size, 2, none⟩ = some (.int .i64 d) ∧ w'.cell? ⟨p, 0, none⟩ = some (.int .i64 size)) (first | (exact ⟨by (go_simp; done), by (go_simp; done), pw_cell_below (w := w) (by repeat (first | exact Below.refl _ _ | apply below_alloc | apply pw_below_drewN | apply below_drew)) HP.out⟩) | go_keep)
      (first | (go_at_call 92; refine (pool1_calls _ size p _ (by omega) hs ?_).mono ?_; (simp [*]); rintro e w' ⟨rfl, rfl⟩))
    all_goals
      go_wp2_with fail
      go_meet
      exact ⟨w.heap.size + 1 + 1, rfl, by omega, (blks3 w _ _ _).1, (blks3 w _ _ _).2.2, (blks3 w _ _ _).2.1, by repeat (first | exact Below.refl _ _ | apply below_alloc | apply pw_below_drewN | apply below_drew)⟩
  case rest =>
    obtain ⟨g, rfl, hg, hg0, hs0, hr0, hB⟩ := hcut
    have hgs : ¬ g = w.heap.size := by omega
    have hgr : ¬ g = w.heap.size + 1 := by omega
    obtain ⟨⟨s0, s1, s2⟩, _, _, _⟩ := cells3 hs0
    go_wp2_with fail
    refine (shape_Right.calls c h d true _ ((right_eq c h d).trans (congrArg some HR.out))).mono ?_
    rintro e w1 ⟨rfl, hb1⟩
    clear s0 s1 s2
    have hg1 := Aside0.mk (blk_below hg0 hb1)
    have hr1 := Aside0.mk (blk_below hr0 hb1)
    have HB1 := Aside0.mk (below_then hB hB.size hb1)
    clear hg0 hs0 hr0 hb1
    obtain ⟨⟨s0, s1, s2⟩, _, _, _⟩ := cells3 hg1.out
    go_wp2_with fail
    refine (shape_Right.calls ch (sideP size h) (sideP size d) _ _ (right_eq _ _ _)).mono ?_
    rintro e w2 ⟨rfl, hb2⟩
    clear s0 s1 s2
    have hg2 := blk_below hg1.out hb2
    have hr2 := blk_below hr1.out hb2
    have HB2 := Aside0.mk (below_then HB1.out HB1.out.size hb2)
    clear hg1 hr1 HB1 hb2
    obtain ⟨⟨s0, s1, s2⟩, f0, f1, f2⟩ := cells3 hg2
    obtain ⟨⟨r0, r1, r2⟩, q0, q1, q2⟩ := cells3 hr2
    clear hg2 hr2
    generalize ht : shR ch (sideP size h) (sideP size d) = t
    have HT := Aside0.mk ht
    clear ht
    cases t
    · go_wp2_with fail
      refine bodyPost_ret (v := .tuple #[.agg #[.int .i64 0, .int .i64 0, .int .i64 0], .bool false]) (by simp [results, Try.results90, go_sem, r0, r1, r2]) rfl ⟨by rw [HT.out]; rfl, ?_⟩
      exact ((HB2.out.setCell (p := ⟨w.heap.size + 1, 0, none⟩) (by simp) _).setCell (p := ⟨w.heap.size + 1, 1, none⟩) (by simp) _).setCell (p := ⟨w.heap.size + 1, 2, none⟩) (by simp) _
    · go_wp2_with fail
      refine bodyPost_ret (v := .tuple #[.agg #[.int .i64 ch, .int .i64 (sideP size h), .int .i64 (sideP size d)], .bool true]) (by simp [results, Try.results90, go_sem, r0, r1, r2]) rfl ⟨by rw [HT.out]; rfl, ?_⟩
      exact ((HB2.out.setCell (p := ⟨w.heap.size + 1, 0, none⟩) (by simp) _).setCell (p := ⟨w.heap.size + 1, 1, none⟩) (by simp) _).setCell (p := ⟨w.heap.size + 1, 2, none⟩) (by simp) _


theorem blk3 (w : World) (A B C : Obj) : (((w.alloc A).alloc B).alloc C).heap[w.heap.size + 1 + 1]? = some C ∧ True := ⟨(blks3 w A B C).1, trivial⟩
theorem blk4 (w : World) (A B C D : Obj) : ((((w.alloc A).alloc B).alloc C).alloc D).heap[w.heap.size + 1 + 1 + 1]? = some D ∧ True := by
  refine ⟨?_, trivial⟩
  simp only [World.alloc, Array.getElem?_push, Array.size_push]
  (repeat' split) <;> first | rfl | omega | (exfalso; simp_all; done)

set_option maxRecDepth 100000 in
set_option maxHeartbeats 4000000 in
theorem shape_Conv_calls (c h d out size step : Int) (w : World) (hR : shR c h d = true) (hh : 0 ≤ h ∧ h ≤ 12) (hd : 0 ≤ d ∧ d ≤ 12) :
    Calls Try.prog 81 #[.agg #[.int .i64 c, .int .i64 h, .int .i64 d], .int .i64 out, .int .i64 size, .int .i64 step] w fun e w' => SizedPost w out (sideC size step h) (sideC size step d) e w' := by
  have hu23 := Try.underlying23
  have HR := Aside0.mk hR
  clear hR
  go_enter Try.func81, Try.ntmps81
  go_wp2_with fail
  refine (sized_conv c h d out size step (w.heap.size + 1) (w.heap.size + 1 + 1) _ HR.out hh hd (by go_simp) (by go_simp)).mono ?_
  rintro e w1 ⟨rfl, hb1⟩
  have hr1 := blk_below (blk4 w _ _ _ _).1 hb1
  have hB : Below w.heap.size w w1 := below_then (by repeat (first | exact Below.refl _ _ | apply below_alloc | apply pw_below_drewN | apply below_drew)) (by simp; omega) hb1
  clear hb1
  obtain ⟨⟨r0, r1, r2⟩, q0, q1, q2⟩ := cells3 hr1
  clear hr1
  generalize ht : shR out (sideC size step h) (sideC size step d) = t
  have HT := Aside0.mk ht
  clear ht
  cases t
  · rw [if_neg (by simp)]
    go_wp2_with fail
    refine bodyPost_ret (v := .tuple #[.agg #[.int .i64 0, .int .i64 0, .int .i64 0], .bool false]) (by simp [results, Try.results81, go_sem, r0, r1, r2]) rfl ⟨by rw [HT.out]; rfl, ?_⟩
    exact ((hB.setCell (p := ⟨w.heap.size + 1 + 1 + 1, 0, none⟩) (by show _ ≤ _ + 1 + 1 + 1; omega) _).setCell (p := ⟨w.heap.size + 1 + 1 + 1, 1, none⟩) (by show _ ≤ _ + 1 + 1 + 1; omega) _).setCell (p := ⟨w.heap.size + 1 + 1 + 1, 2, none⟩) (by show _ ≤ _ + 1 + 1 + 1; omega) _
  · rw [if_pos rfl]
    go_wp2_with fail
    refine bodyPost_ret (v := .tuple #[.agg #[.int .i64 out, .int .i64 (sideC size step h), .int .i64 (sideC size step d)], .bool true]) (by simp [results, Try.results81, go_sem, r0, r1, r2]) rfl ⟨by rw [HT.out]; rfl, ?_⟩
    exact ((hB.setCell (p := ⟨w.heap.size + 1 + 1 + 1, 0, none⟩) (by show _ ≤ _ + 1 + 1 + 1; omega) _).setCell (p := ⟨w.heap.size + 1 + 1 + 1, 1, none⟩) (by show _ ≤ _ + 1 + 1 + 1; omega) _).setCell (p := ⟨w.heap.size + 1 + 1 + 1, 2, none⟩) (by show _ ≤ _ + 1 + 1 + 1; omega) _

set_option maxRecDepth 100000 in
set_option maxHeartbeats 4000000 in
theorem shape_Pool_calls (c h d size : Int) (w : World) (hR : shR c h d = true) (hh : 0 ≤ h ∧ h ≤ 12) (hd : 0 ≤ d ∧ d ≤ 12) (hs : size ≤ 999999) :
    Calls Try.prog 82 #[.agg #[.int .i64 c, .int .i64 h, .int .i64 d], .int .i64 size] w fun e w' => SizedPost w c (sideP size h) (sideP size d) e w' := by
  have hu23 := Try.underlying23
  have HR := Aside0.mk hR
  clear hR
  go_enter Try.func82, Try.ntmps82
  go_wp2_with fail
  refine (sized_pool c h d c size (w.heap.size + 1) _ HR.out hh hd (by go_simp) hs).mono ?_
  rintro e w1 ⟨rfl, hb1⟩
  have hr1 := blk_below (blk3 w _ _ _).1 hb1
  have hB : Below w.heap.size w w1 := below_then (by repeat (first | exact Below.refl _ _ | apply below_alloc | apply pw_below_drewN | apply below_drew)) (by simp; omega) hb1
  clear hb1
  obtain ⟨⟨r0, r1, r2⟩, q0, q1, q2⟩ := cells3 hr1
  clear hr1
  generalize ht : shR c (sideP size h) (sideP size d) = t
  have HT := Aside0.mk ht
  clear ht
  cases t
  · rw [if_neg (by simp)]
    go_wp2_with fail
    refine bodyPost_ret (v := .tuple #[.agg #[.int .i64 0, .int .i64 0, .int .i64 0], .bool false]) (by simp [results, Try.results82, go_sem, r0, r1, r2]) rfl ⟨by rw [HT.out]; rfl, ?_⟩
    exact ((hB.setCell (p := ⟨w.heap.size + 1 + 1, 0, none⟩) (by show _ ≤ _ + 1 + 1; omega) _).setCell (p := ⟨w.heap.size + 1 + 1, 1, none⟩) (by show _ ≤ _ + 1 + 1; omega) _).setCell (p := ⟨w.heap.size + 1 + 1, 2, none⟩) (by show _ ≤ _ + 1 + 1; omega) _
  · rw [if_pos rfl]
    go_wp2_with fail
    refine bodyPost_ret (v := .tuple #[.agg #[.int .i64 c, .int .i64 (sideP size h), .int .i64 (sideP size d)], .bool true]) (by simp [results, Try.results82, go_sem, r0, r1, r2]) rfl ⟨by rw [HT.out]; rfl, ?_⟩
    exact ((hB.setCell (p := ⟨w.heap.size + 1 + 1, 0, none⟩) (by show _ ≤ _ + 1 + 1; omega) _).setCell (p := ⟨w.heap.size + 1 + 1, 1, none⟩) (by show _ ≤ _ + 1 + 1; omega) _).setCell (p := ⟨w.heap.size + 1 + 1, 2, none⟩) (by show _ ≤ _ + 1 + 1; omega) _

end Go.Proofs.Ytjegihodmidhoaa.G
namespace Go.Proofs.Ytjegihodmidhoaa.G
open Go.RowKit Go.Proofs.YtjegihodmidhoaaW.PrintWords Go.Proofs.YtjegihodmidhoaaW.PrintLast Go.Proofs.YtjegihodmidhoaaW.PrintMore
set_option linter.unusedVariables false
set_option linter.unusedSimpArgs false

def inMost (most n : Int) : Bool := decide (0 ≤ n) && decide (n ≤ most)

/-- A row of pointers at `ad`, and what they lead to. -/
def PtrsTo (w : World) (A : Option Addr) (xs : List Int) : Prop :=
  0 < xs.length → ∃ ad, A = some ad ∧ ∀ j, j < xs.length → ∃ p : Addr, w.cell? (ad.add j) = some (.pointer (some p)) ∧ w.cell? p = some (.int .i64 (xs.getD j 0))

set_option maxHeartbeats 1000000 in
theorem descr_within_calls (most : Int) (A : Option Addr) (c : Nat) (xs : List Int) (w : World) (hp : PtrsTo w A xs) (hl : xs.length ≤ 1000) :
    Calls Try.prog 79 #[.int .i64 most, .slice A xs.length c] w fun e w' => e = .returned (.bool (xs.all (inMost most))) ∧ w = w' := by
  have HP := Aside0.mk hp
  clear hp
  go_enter Try.func79, Try.ntmps79
  go_wp2
  go_loop [9] (fun i => ∃ k : Nat, k ≤ xs.length ∧ i = .int .i64 k ∧ (xs.take k).all (inMost most) = true) (fun i => xs.length - (intOf i).toNat)
  case atStart => exact ⟨0, Nat.zero_le _, rfl, by simp⟩
  case round =>
    obtain ⟨k, hk, rfl, hall0⟩ := hrel
    have hall := Aside0.mk hall0
    clear hall0
    by_cases hlt : k < xs.length
    · obtain ⟨ad, rfl, hc⟩ := HP.out (by omega)
      obtain ⟨p, hc1, hc2⟩ := hc k hlt
      clear hc
      generalize hx : xs.getD k 0 = x at hc2
      have HX := Aside0.mk hx
      clear hx
      by_cases h0 : x < 0
      · go_wp2
        go_ret
        refine ⟨?_, rfl⟩
        have : xs.all (inMost most) = false := by
          rw [List.all_eq_false]
          refine ⟨x, ?_, by simp [inMost]; omega⟩
          rw [← HX.out, List.getD_eq_getElem?_getD, List.getElem?_eq_getElem hlt]
          exact List.getElem_mem hlt
        simp [this]
      · by_cases h1 : most < x
        · go_wp2
          go_ret
          refine ⟨?_, rfl⟩
          have : xs.all (inMost most) = false := by
            rw [List.all_eq_false]
            refine ⟨x, ?_, by simp [inMost]; omega⟩
            rw [← HX.out, List.getD_eq_getElem?_getD, List.getElem?_eq_getElem hlt]
            exact List.getElem_mem hlt
          simp [this]
        · go_wp2
          go_round
          case rel =>
            refine ⟨k + 1, by omega, by go_num, ?_⟩
            rw [List.take_succ_eq_append_getElem hlt, List.all_append, hall.out]
            have : xs[k] = x := by rw [← HX.out, List.getD_eq_getElem?_getD, List.getElem?_eq_getElem hlt]; rfl
            simp [this, inMost]; omega
          case measure => simp [intOf]; omega
    · have h2 : xs.all (inMost most) = true := by
        have h2 := hall.out
        rwa [List.take_of_length_le (by omega)] at h2
      have H2 := Aside0.mk h2
      clear h2
      go_wp2
      go_ret
      exact ⟨by rw [H2.out]; rfl, rfl⟩
end Go.Proofs.Ytjegihodmidhoaa.G
namespace Go.Proofs.Ytjegihodmidhoaa.G
open Go.RowKit Go.Proofs.YtjegihodmidhoaaW.PrintWords Go.Proofs.YtjegihodmidhoaaW.PrintLast Go.Proofs.YtjegihodmidhoaaW.PrintMore
set_option linter.unusedVariables false
set_option linter.unusedSimpArgs false

/-- What `numbers` hands back. -/
def NumPost (w : World) (has not : List Int) (word : ByteArray) (e : Ending) (w' : World) : Prop :=
  ∃ (A1 A2 : Option Addr) (c1 c2 : Nat), e = .returned (.tuple #[.string word, .slice A1 has.length c1, .slice A2 not.length c2]) ∧ PtrsTo w' A1 has ∧ PtrsTo w' A2 not ∧ Below w.heap.size w w'

theorem PtrsTo.nil (w : World) : PtrsTo w none [] := fun h => absurd h (by simp)
theorem PtrsTo.one {w : World} {g b : Nat} {i : Nat} {x : Int} (h : w.cell? ⟨g, 0, none⟩ = some (.pointer (some ⟨b, i, none⟩))) (hx : w.cell? ⟨b, i, none⟩ = some (.int .i64 x)) : PtrsTo w (some ⟨g, 0, none⟩) [x] := by
  intro _
  refine ⟨_, rfl, fun j hj => ?_⟩
  obtain rfl : j = 0 := by simp at hj; omega
  exact ⟨_, h, hx⟩
theorem PtrsTo.two {w : World} {g b : Nat} {i i' : Nat} {x y : Int} (h : w.cell? ⟨g, 0, none⟩ = some (.pointer (some ⟨b, i, none⟩))) (hx : w.cell? ⟨b, i, none⟩ = some (.int .i64 x))
    (h' : w.cell? ⟨g, 1, none⟩ = some (.pointer (some ⟨b, i', none⟩))) (hy : w.cell? ⟨b, i', none⟩ = some (.int .i64 y)) : PtrsTo w (some ⟨g, 0, none⟩) [x, y] := by
  intro _
  refine ⟨_, rfl, fun j hj => ?_⟩
  rcases j with _ | _ | j
  · exact ⟨_, h, hx⟩
  · exact ⟨_, by rw [add_plain]; exact h', hy⟩
  · exact absurd hj (by simp)
theorem PtrsTo.three {w : World} {g b : Nat} {i i' i2 : Nat} {x y z : Int} (h : w.cell? ⟨g, 0, none⟩ = some (.pointer (some ⟨b, i, none⟩))) (hx : w.cell? ⟨b, i, none⟩ = some (.int .i64 x))
    (h' : w.cell? ⟨g, 1, none⟩ = some (.pointer (some ⟨b, i', none⟩))) (hy : w.cell? ⟨b, i', none⟩ = some (.int .i64 y))
    (h2 : w.cell? ⟨g, 2, none⟩ = some (.pointer (some ⟨b, i2, none⟩))) (hz : w.cell? ⟨b, i2, none⟩ = some (.int .i64 z)) : PtrsTo w (some ⟨g, 0, none⟩) [x, y, z] := by
  intro _
  refine ⟨_, rfl, fun j hj => ?_⟩
  rcases j with _ | _ | _ | j
  · exact ⟨_, h, hx⟩
  · exact ⟨_, by rw [add_plain]; exact h', hy⟩
  · exact ⟨_, by rw [add_plain]; exact h2, hz⟩
  · exact absurd hj (by simp)
theorem PtrsTo.below {w w1 : World} {A : Option Addr} {xs : List Int} (h : PtrsTo w A xs) (hb : Below w.heap.size w w1) : PtrsTo w1 A xs := by
  intro hn
  obtain ⟨ad, e, hc⟩ := h hn
  refine ⟨ad, e, fun j hj => ?_⟩
  obtain ⟨p, h1, h2⟩ := hc j hj
  exact ⟨p, pw_cell_below hb h1, pw_cell_below hb h2⟩

def wConv : ByteArray := ⟨#[99, 111, 110, 118]⟩
def wSquare : ByteArray := ⟨#[115, 113, 117, 97, 114, 101]⟩
def wPool : ByteArray := ⟨#[112, 111, 111, 108]⟩
def wDense : ByteArray := ⟨#[100, 101, 110, 115, 101]⟩

section
variable (b : Nat) (k o s t : Int) (w : World) (hb : w.heap[b]? = some (.cells #[.int .i64 k, .int .i64 o, .int .i64 s, .int .i64 t] 63 (0, 0)))
include hb
set_option maxRecDepth 100000 in
set_option maxHeartbeats 2000000 in
theorem numbers_conv (hk : (k == 1) = true) :
    Calls Try.prog 80 #[.agg #[.pointer (some ⟨b, 0, none⟩)]] w fun e w' => NumPost w [o, s, t] [] wConv e w' := by
  have c0 : w.cell? ⟨b, 0, none⟩ = some (.int .i64 k) := (blk_cell hb 0).trans rfl
  have c1 : w.cell? ⟨b, 1, none⟩ = some (.int .i64 o) := (blk_cell hb 1).trans rfl
  have c2 : w.cell? ⟨b, 2, none⟩ = some (.int .i64 s) := (blk_cell hb 2).trans rfl
  have c3 : w.cell? ⟨b, 3, none⟩ = some (.int .i64 t) := (blk_cell hb 3).trans rfl
  have hbl : b < w.heap.size := blk_lt hb
  have hbn : ¬ b = w.heap.size := by omega
  have HB := Aside0.mk hb
  clear hb
  have hu130 := Try.underlying130
  have hu63 := Try.underlying63
  go_enter Try.func80, Try.ntmps80
  go_wp2
  go_region
  all_goals
    go_wp2
    go_ret3
    refine (fun hB : Below w.heap.size w _ => ⟨_, _, 3, 0, rfl, .three (b := b) (i := 1) (i' := 2) (i2 := 3) (by go_simp) (pw_cell_below hB c1) (by go_simp) (pw_cell_below hB c2) (by go_simp) (pw_cell_below hB c3), .nil _, hB⟩) (by repeat (first | exact Below.refl _ _ | apply below_alloc | apply pw_below_drewN | apply below_drew))
set_option maxRecDepth 100000 in
set_option maxHeartbeats 2000000 in
theorem numbers_square (hk : (k == 2) = true) :
    Calls Try.prog 80 #[.agg #[.pointer (some ⟨b, 0, none⟩)]] w fun e w' => NumPost w [] [o, s, t] wSquare e w' := by
  have c0 : w.cell? ⟨b, 0, none⟩ = some (.int .i64 k) := (blk_cell hb 0).trans rfl
  have c1 : w.cell? ⟨b, 1, none⟩ = some (.int .i64 o) := (blk_cell hb 1).trans rfl
  have c2 : w.cell? ⟨b, 2, none⟩ = some (.int .i64 s) := (blk_cell hb 2).trans rfl
  have c3 : w.cell? ⟨b, 3, none⟩ = some (.int .i64 t) := (blk_cell hb 3).trans rfl
  have k1 : (k == 1) = false := by simp at hk ⊢; omega
  have hbl : b < w.heap.size := blk_lt hb
  have hbn : ¬ b = w.heap.size := by omega
  have HB := Aside0.mk hb
  clear hb
  have hu130 := Try.underlying130
  have hu63 := Try.underlying63
  go_enter Try.func80, Try.ntmps80
  go_wp2
  go_region
  all_goals
    go_wp2
    go_ret3
    refine (fun hB : Below w.heap.size w _ => ⟨_, _, 0, 3, rfl, .nil _, .three (b := b) (i := 1) (i' := 2) (i2 := 3) (by go_simp) (pw_cell_below hB c1) (by go_simp) (pw_cell_below hB c2) (by go_simp) (pw_cell_below hB c3), hB⟩) (by repeat (first | exact Below.refl _ _ | apply below_alloc | apply pw_below_drewN | apply below_drew))
set_option maxRecDepth 100000 in
set_option maxHeartbeats 2000000 in
theorem numbers_pool (hk : (k == 3) = true) :
    Calls Try.prog 80 #[.agg #[.pointer (some ⟨b, 0, none⟩)]] w fun e w' => NumPost w [s] [o, t] wPool e w' := by
  have c0 : w.cell? ⟨b, 0, none⟩ = some (.int .i64 k) := (blk_cell hb 0).trans rfl
  have c1 : w.cell? ⟨b, 1, none⟩ = some (.int .i64 o) := (blk_cell hb 1).trans rfl
  have c2 : w.cell? ⟨b, 2, none⟩ = some (.int .i64 s) := (blk_cell hb 2).trans rfl
  have c3 : w.cell? ⟨b, 3, none⟩ = some (.int .i64 t) := (blk_cell hb 3).trans rfl
  have k1 : (k == 1) = false := by simp at hk ⊢; omega
  have k2 : (k == 2) = false := by simp at hk ⊢; omega
  have hbl : b < w.heap.size := blk_lt hb
  have hbn : ¬ b = w.heap.size := by omega
  have HB := Aside0.mk hb
  clear hb
  have hu130 := Try.underlying130
  have hu63 := Try.underlying63
  go_enter Try.func80, Try.ntmps80
  go_wp2
  go_region
  all_goals
    go_wp2
    go_ret3
    refine (fun hB : Below w.heap.size w _ => ⟨_, _, 1, 2, rfl, .one (b := b) (i := 2) (by go_simp) (pw_cell_below hB c2), .two (b := b) (i := 1) (i' := 3) (by go_simp) (pw_cell_below hB c1) (by go_simp) (pw_cell_below hB c3), hB⟩) (by repeat (first | exact Below.refl _ _ | apply below_alloc | apply pw_below_drewN | apply below_drew))
set_option maxRecDepth 100000 in
set_option maxHeartbeats 2000000 in
theorem numbers_dense (hk : (k == 4) = true) :
    Calls Try.prog 80 #[.agg #[.pointer (some ⟨b, 0, none⟩)]] w fun e w' => NumPost w [o] [s, t] wDense e w' := by
  have c0 : w.cell? ⟨b, 0, none⟩ = some (.int .i64 k) := (blk_cell hb 0).trans rfl
  have c1 : w.cell? ⟨b, 1, none⟩ = some (.int .i64 o) := (blk_cell hb 1).trans rfl
  have c2 : w.cell? ⟨b, 2, none⟩ = some (.int .i64 s) := (blk_cell hb 2).trans rfl
  have c3 : w.cell? ⟨b, 3, none⟩ = some (.int .i64 t) := (blk_cell hb 3).trans rfl
  have k1 : (k == 1) = false := by simp at hk ⊢; omega
  have k2 : (k == 2) = false := by simp at hk ⊢; omega
  have k3 : (k == 3) = false := by simp at hk ⊢; omega
  have hbl : b < w.heap.size := blk_lt hb
  have hbn : ¬ b = w.heap.size := by omega
  have HB := Aside0.mk hb
  clear hb
  have hu130 := Try.underlying130
  have hu63 := Try.underlying63
  go_enter Try.func80, Try.ntmps80
  go_wp2
  go_region
  all_goals
    go_wp2
    go_ret3
    refine (fun hB : Below w.heap.size w _ => ⟨_, _, 1, 2, rfl, .one (b := b) (i := 1) (by go_simp) (pw_cell_below hB c1), .two (b := b) (i := 2) (i' := 3) (by go_simp) (pw_cell_below hB c2) (by go_simp) (pw_cell_below hB c3), hB⟩) (by repeat (first | exact Below.refl _ _ | apply below_alloc | apply pw_below_drewN | apply below_drew))
set_option maxRecDepth 100000 in
set_option maxHeartbeats 2000000 in
theorem numbers_other (k1 : (k == 1) = false) (k2 : (k == 2) = false) (k3 : (k == 3) = false) (k4 : (k == 4) = false) :
    Calls Try.prog 80 #[.agg #[.pointer (some ⟨b, 0, none⟩)]] w fun e w' => NumPost w [] [] ⟨#[]⟩ e w' := by
  have c0 : w.cell? ⟨b, 0, none⟩ = some (.int .i64 k) := (blk_cell hb 0).trans rfl
  have c1 : w.cell? ⟨b, 1, none⟩ = some (.int .i64 o) := (blk_cell hb 1).trans rfl
  have c2 : w.cell? ⟨b, 2, none⟩ = some (.int .i64 s) := (blk_cell hb 2).trans rfl
  have c3 : w.cell? ⟨b, 3, none⟩ = some (.int .i64 t) := (blk_cell hb 3).trans rfl
  have hbl : b < w.heap.size := blk_lt hb
  have hbn : ¬ b = w.heap.size := by omega
  have HB := Aside0.mk hb
  clear hb
  have hu130 := Try.underlying130
  have hu63 := Try.underlying63
  go_enter Try.func80, Try.ntmps80
  go_wp2
  go_ret3
  refine (fun hB : Below w.heap.size w _ => ⟨_, _, 0, 0, rfl, .nil _, .nil _, hB⟩) (by repeat (first | exact Below.refl _ _ | apply below_alloc | apply pw_below_drewN | apply below_drew))
end
end Go.Proofs.Ytjegihodmidhoaa.G
namespace Go.Proofs.Ytjegihodmidhoaa.G
open Go.RowKit Go.Proofs.YtjegihodmidhoaaW.PrintWords Go.Proofs.YtjegihodmidhoaaW.PrintLast Go.Proofs.YtjegihodmidhoaaW.PrintMore
set_option linter.unusedVariables false
set_option linter.unusedSimpArgs false

def hasOf (x : S63) : List Int := if x.f0 = 1 then [x.f1, x.f2, x.f3] else if x.f0 = 2 then [] else if x.f0 = 3 then [x.f2] else if x.f0 = 4 then [x.f1] else []
def notOf (x : S63) : List Int := if x.f0 = 1 then [] else if x.f0 = 2 then [x.f1, x.f2, x.f3] else if x.f0 = 3 then [x.f1, x.f3] else if x.f0 = 4 then [x.f2, x.f3] else []
def wordOf (x : S63) : ByteArray := if x.f0 = 1 then wConv else if x.f0 = 2 then wSquare else if x.f0 = 3 then wPool else if x.f0 = 4 then wDense else ⟨#[]⟩
def known (x : S63) : Bool := x.f0 == 1 || x.f0 == 2 || x.f0 == 3 || x.f0 == 4
def formL (x : S63) : Bool := known x && (hasOf x).all (inMost 999999) && (notOf x).all (inMost 0)
def formB (a b c : Int) (l : List S63) : Bool := decide (l.length ≤ 8) && [a, b, c].all (inMost 999999) && l.all formL

theorem word_some {x : S63} (h : known x = true) : ¬ (wordOf x).toList = [] := by
  unfold known at h
  simp only [Bool.or_eq_true, beq_iff_eq] at h
  unfold wordOf
  rcases h with ((h | h) | h) | h <;> simp [h] <;> decide +kernel
theorem word_none {x : S63} (h : known x = false) : (wordOf x).toList = [] := by
  unfold known at h
  simp only [Bool.or_eq_false_iff, beq_eq_false_iff_ne] at h
  obtain ⟨⟨⟨h1, h2⟩, h3⟩, h4⟩ := h
  unfold wordOf
  simp [h1, h2, h3, h4]
theorem form_snoc {ls : List S63} {k : Nat} {x : S63} (hall : Aside0 ((ls.take k).all formL = true)) (hx : Aside0 (rd_T63 ls (k : Int) = x)) (hk : k < ls.length) (hf : formL x = true) : Aside0 ((ls.take (k + 1)).all formL = true) := by
  refine ⟨?_⟩
  rw [List.take_succ_eq_append_getElem hk, List.all_append, hall.out]
  have : ls[k] = x := by rw [← hx.out]; simp [rd_T63, List.getD_eq_getElem?_getD, List.getElem?_eq_getElem hk]
  simp [this, hf]
theorem form_false {ls : List S63} {k : Nat} {x : S63} (hx : Aside0 (rd_T63 ls (k : Int) = x)) (hk : k < ls.length) (hf : formL x = false) : ls.all formL = false := by
  rw [List.all_eq_false]
  refine ⟨x, ?_, by simp [hf]⟩
  rw [← hx.out]
  simp only [rd_T63, Int.toNat_natCast, List.getD_eq_getElem?_getD, List.getElem?_eq_getElem hk]
  exact List.getElem_mem hk

theorem mono_alloc_of {w w2 : World} {o : Obj} (h : Below (w.alloc o).heap.size (w.alloc o) w2) : Below w.heap.size w w2 :=
  (below_alloc (Below.refl w.heap.size w) o).trans (h.mono (by simp))

theorem numbers_calls (b : Nat) (x : S63) (w : World) (hb : w.heap[b]? = some (.cells #[.int .i64 x.f0, .int .i64 x.f1, .int .i64 x.f2, .int .i64 x.f3] 63 (0, 0))) :
    Calls Try.prog 80 #[.agg #[.pointer (some ⟨b, 0, none⟩)]] w fun e w' => NumPost w (hasOf x) (notOf x) (wordOf x) e w' := by
  unfold hasOf notOf wordOf
  by_cases h1 : x.f0 = 1
  · simp only [if_pos h1]; exact numbers_conv b _ _ _ _ w hb (by simp [h1])
  · by_cases h2 : x.f0 = 2
    · simp only [if_neg h1, if_pos h2]; exact numbers_square b _ _ _ _ w hb (by simp [h2])
    · by_cases h3 : x.f0 = 3
      · simp only [if_neg h1, if_neg h2, if_pos h3]; exact numbers_pool b _ _ _ _ w hb (by simp [h3])
      · by_cases h4 : x.f0 = 4
        · simp only [if_neg h1, if_neg h2, if_neg h3, if_pos h4]; exact numbers_dense b _ _ _ _ w hb (by simp [h4])
        · simp only [if_neg h1, if_neg h2, if_neg h3, if_neg h4]
          exact numbers_other b _ _ _ _ w hb (by simp [h1]) (by simp [h2]) (by simp [h3]) (by simp [h4])

def descr_Form.f (a0_0 : Int) (a0_1 : Int) (a0_2 : Int) (l0_3 : List S63) : Option Bool := some (formB a0_0 a0_1 a0_2 l0_3)

set_option maxRecDepth 100000 in
set_option maxHeartbeats 2000000 in
theorem form_loop (a b c : Int) (A : Option Addr) (cp : Nat) (ls : List S63) (w : World) (hr : Kd.C k63 w A ls.length ls) (hl : ls.length ≤ 8) (h3 : [a, b, c].all (inMost 999999) = true) :
    Calls Try.prog 70 #[.agg #[.int .i64 a, .int .i64 b, .int .i64 c, .slice A ls.length cp]] w fun e w' => e = .returned (.bool (ls.all formL)) ∧ Below w.heap.size w w' := by
  have HR := Aside0.mk hr
  have H3 := Aside0.mk h3
  clear hr h3
  have hu26 := Try.underlying26
  have hu63 := Try.underlying63
  have hu130 := Try.underlying130
  have hlB : decide (8 < ls.length) = false := by simp; omega
  go_enter Try.func70, Try.ntmps70
  go_wp2_with fail
  refine (descr_within_calls 999999 (some ⟨w.heap.size + 1, 0, none⟩) 3 [a, b, c] _ (.three (b := w.heap.size) (i := 0) (i' := 1) (i2 := 2) (by go_simp) (by go_simp) (by go_simp) (by go_simp) (by go_simp) (by go_simp)) (by simp)).mono ?_
  rintro e w1 ⟨rfl, rfl⟩
  rw [H3.out]
  go_wp2_with fail
  go_loopw [27] (fun i wr => ∃ k : Nat, k ≤ ls.length ∧ i = .int .i64 k ∧ Aside0 ((ls.take k).all formL = true) ∧ Below w.heap.size w wr ∧ Aside0 (w.heap.size + 1 < wr.heap.size)) (fun i _ => ls.length - (intOf i).toNat)
  case atStart => exact ⟨0, Nat.zero_le _, rfl, ⟨by simp⟩, below_alloc (below_alloc (Below.refl _ _) _) _, ⟨by simp⟩⟩
  case round =>
    obtain ⟨k, hk, rfl, hall, hB, hz⟩ := hrel
    by_cases hlt : k < ls.length
    · have hltI : (k : Int) < (ls.length : Int) := by omega
      obtain ⟨ad, rfl, hd0, hd1, hd2, hd3⟩ := at_T63 (Kd.C_below HR.out hB) (k : Int) (by omega) hltI
      simp only [Int.toNat_natCast] at hd0 hd1 hd2 hd3
      generalize hx : rd_T63 ls (k : Int) = x at hd0 hd1 hd2 hd3
      have HX := Aside0.mk hx
      clear hx
      go_wp2_with fail
      refine (numbers_calls wr.heap.size x _ (heap_alloc_new wr _)).mono ?_
      rintro e w2 ⟨A1, A2, c1, c2, rfl, hp1, hp2, hb2⟩
      have HP1 := Aside0.mk hp1
      have HP2 := Aside0.mk hp2
      have HB2 := Aside0.mk (below_then hB hB.size (mono_alloc_of hb2))
      have HZ2 := Aside0.mk (Nat.le_trans (by simp : wr.heap.size ≤ (wr.alloc (.cells #[.int .i64 x.f0, .int .i64 x.f1, .int .i64 x.f2, .int .i64 x.f3] 63)).heap.size) hb2.size)
      clear hp1 hp2 hb2
      have hlen1 : (hasOf x).length ≤ 1000 := by unfold hasOf; (repeat' split) <;> simp
      have hlen2 : (notOf x).length ≤ 1000 := by unfold notOf; (repeat' split) <;> simp
      by_cases hkn : known x = true
      · have hwn : ¬ (wordOf x).toList = [] := word_some hkn
        have hwe : (wordOf x).toList.isEmpty = false := by rw [List.isEmpty_eq_false_iff]; exact hwn
        generalize hw : wordOf x = wd at hwn hwe
        clear hw
        go_wp2_with fail
        refine (descr_within_calls 999999 A1 c1 (hasOf x) _ HP1.out hlen1).mono ?_
        rintro e w3 ⟨rfl, rfl⟩
        by_cases h1 : (hasOf x).all (inMost 999999) = true
        · rw [h1]
          have H1 := Aside0.mk h1
          clear h1
          go_wp2_with fail
          refine (descr_within_calls 0 A2 c2 (notOf x) _ HP2.out hlen2).mono ?_
          rintro e w3 ⟨rfl, rfl⟩
          by_cases h2 : (notOf x).all (inMost 0) = true
          · rw [h2]
            have H2 := Aside0.mk h2
            clear h2
            have HK := Aside0.mk hkn
            clear hkn
            go_wp2_with fail
            exact ⟨⟨k + 1, by omega, by go_num, form_snoc hall HX hlt (by rw [formL, HK.out, H1.out, H2.out]; rfl), HB2.out, ⟨Nat.lt_of_lt_of_le hz.out HZ2.out⟩⟩, by simp [intOf]; omega⟩
          · replace h2 := Bool.eq_false_iff.mpr h2
            rw [h2]
            have H2 := Aside0.mk h2
            clear h2
            go_wp2_with fail
            go_ret
            exact ⟨by rw [form_false HX hlt (by rw [formL, H2.out]; simp)]; rfl, HB2.out⟩
        · replace h1 := Bool.eq_false_iff.mpr h1
          rw [h1]
          have H1 := Aside0.mk h1
          clear h1
          go_wp2_with fail
          go_ret
          exact ⟨by rw [form_false HX hlt (by rw [formL, H1.out]; simp)]; rfl, HB2.out⟩
      · have hwn : (wordOf x).toList = [] := word_none (Bool.eq_false_iff.mpr hkn)
        generalize hw : wordOf x = wd at hwn
        clear hw
        go_wp2_with fail
        go_ret
        exact ⟨by rw [form_false HX hlt (by rw [formL, Bool.eq_false_iff.mpr hkn]; rfl)]; rfl, HB2.out⟩
    · have hall2 : ls.all formL = true := by
        have h2 := hall.out
        rwa [List.take_of_length_le (by omega)] at h2
      have H2 := Aside0.mk hall2
      clear hall2
      go_wp2_with fail
      go_ret
      exact ⟨by rw [H2.out]; rfl, hB⟩

set_option maxRecDepth 100000 in
set_option maxHeartbeats 2000000 in
theorem form_no (a b c : Int) (A : Option Addr) (cp : Nat) (ls : List S63) (w : World) (hl : ls.length ≤ 8) (h3 : [a, b, c].all (inMost 999999) = false) :
    Calls Try.prog 70 #[.agg #[.int .i64 a, .int .i64 b, .int .i64 c, .slice A ls.length cp]] w fun e w' => e = .returned (.bool false) ∧ Below w.heap.size w w' := by
  have H3 := Aside0.mk h3
  clear h3
  have hu26 := Try.underlying26
  have hlB : decide (8 < ls.length) = false := by simp; omega
  go_enter Try.func70, Try.ntmps70
  go_wp2_with fail
  refine (descr_within_calls 999999 (some ⟨w.heap.size + 1, 0, none⟩) 3 [a, b, c] _ (.three (b := w.heap.size) (i := 0) (i' := 1) (i2 := 2) (by go_simp) (by go_simp) (by go_simp) (by go_simp) (by go_simp) (by go_simp)) (by simp)).mono ?_
  rintro e w1 ⟨rfl, rfl⟩
  rw [H3.out]
  go_wp2_with fail
  go_ret
  exact ⟨rfl, by repeat (first | exact Below.refl _ _ | apply below_alloc | apply pw_below_drewN | apply below_drew)⟩

set_option maxRecDepth 100000 in
set_option maxHeartbeats 2000000 in
theorem form_long (a b c : Int) (A : Option Addr) (cp : Nat) (ls : List S63) (w : World) (hl : 8 < ls.length) :
    Calls Try.prog 70 #[.agg #[.int .i64 a, .int .i64 b, .int .i64 c, .slice A ls.length cp]] w fun e w' => e = .returned (.bool false) ∧ Below w.heap.size w w' := by
  have hu26 := Try.underlying26
  have hlB : decide (8 < ls.length) = true := by simp; omega
  go_enter Try.func70, Try.ntmps70
  go_wp2_with fail
  go_ret
  exact ⟨rfl, by repeat (first | exact Below.refl _ _ | apply below_alloc | apply pw_below_drewN | apply below_drew)⟩

theorem descr_Form.calls (a0_0 : Int) (a0_1 : Int) (a0_2 : Int) (A0_3 : Option Addr) (c0_3 : Nat) (l0_3 : List (S63)) (r : Bool) (w : World) (hr0_3 : Kd.C k63 w A0_3 l0_3.length l0_3) (hc0_3 : l0_3.length ≤ c0_3) (h : descr_Form.f a0_0 a0_1 a0_2 l0_3 = some r) :
    Calls Try.prog 70 #[.agg #[.int .i64 a0_0, .int .i64 a0_1, .int .i64 a0_2, .slice A0_3 l0_3.length c0_3]] w fun e w' => e = .returned (.bool r) ∧ Below w.heap.size w w' := by
  obtain rfl := Option.some.inj h
  unfold formB
  by_cases hl : l0_3.length ≤ 8
  · by_cases h3 : [a0_0, a0_1, a0_2].all (inMost 999999) = true
    · refine (form_loop _ _ _ _ _ l0_3 w hr0_3 hl h3).mono ?_
      rintro e w' ⟨rfl, hb⟩
      exact ⟨by rw [h3, decide_eq_true hl]; rfl, hb⟩
    · replace h3 := Bool.eq_false_iff.mpr h3
      refine (form_no _ _ _ _ _ l0_3 w hl h3).mono ?_
      rintro e w' ⟨rfl, hb⟩
      exact ⟨by rw [h3, decide_eq_true hl]; rfl, hb⟩
  · refine (form_long _ _ _ _ _ l0_3 w (by omega)).mono ?_
    rintro e w' ⟨rfl, hb⟩
    exact ⟨by rw [decide_eq_false hl]; rfl, hb⟩
end Go.Proofs.Ytjegihodmidhoaa.G
namespace Go.Proofs.Ytjegihodmidhoaa.G
open Go.RowKit Go.Proofs.YtjegihodmidhoaaW.PrintWords Go.Proofs.YtjegihodmidhoaaW.PrintLast Go.Proofs.YtjegihodmidhoaaW.PrintMore
set_option linter.unusedVariables false
set_option linter.unusedSimpArgs false

theorem must_yes (e : Int) (w : World) : Calls Try.prog 69 #[.bool true, .int .i64 e] w fun r w' => r = .returned (.tuple #[]) ∧ w = w' := by
  go_enter Try.func69, Try.ntmps69
  go_wp2
  go_end0
  exact ⟨rfl, rfl⟩
def wrongV (e : Int) : Value := .iface 111 (.agg #[.int .i64 e])
theorem must_no (e : Int) (w : World) : Calls Try.prog 69 #[.bool false, .int .i64 e] w fun r w' => r = .panicked [{ v := wrongV e, recovered := false }] ∧ w = w' := by
  have hu111 := Try.underlying111
  have hpn : ∀ (v : Value) (W : World), (Instr.panic (.iface 111 v)).run Try.prog W = .halt (.panic (.iface 111 v)) W := fun _ _ => rfl
  go_enter Try.func69, Try.ntmps69
  go_wp2
  exact ⟨rfl, rfl, rfl⟩

def sizeS (c h d : Int) : Int := if shR c h d = true then wrap64 (wrap64 (c * h) * d) else 0
theorem size_eq (c h d : Int) : shape_Size.f c h d = some (sizeS c h d) := by
  unfold shape_Size.f sizeS
  rw [right_eq, Option.bind_some]
  split <;> rfl
/-- What comes out of a layer; does it fit? -/
def nextOut (s : S23) (l : S63) : S23 := if l.f0 = 1 then (if shR l.f1 (sideC l.f2 l.f3 s.f1) (sideC l.f2 l.f3 s.f2) = true then ⟨l.f1, sideC l.f2 l.f3 s.f1, sideC l.f2 l.f3 s.f2⟩ else z23)
  else if l.f0 = 2 then s else if l.f0 = 3 then (if shR s.f0 (sideP l.f2 s.f1) (sideP l.f2 s.f2) = true then ⟨s.f0, sideP l.f2 s.f1, sideP l.f2 s.f2⟩ else z23) else ⟨l.f1, 1, 1⟩
def nextIs (s : S23) (l : S63) : Bool := if l.f0 = 1 then shR l.f1 (sideC l.f2 l.f3 s.f1) (sideC l.f2 l.f3 s.f2)
  else if l.f0 = 2 then true else if l.f0 = 3 then shR s.f0 (sideP l.f2 s.f1) (sideP l.f2 s.f2) else decide (1 ≤ l.f1) && decide (l.f1 ≤ 8)
def nextW (s : S23) (l : S63) : Int := if l.f0 = 1 then wrap64 (wrap64 (wrap64 (l.f1 * s.f0) * l.f2) * l.f2) else if l.f0 = 2 then 0 else if l.f0 = 3 then 0 else wrap64 (l.f1 * sizeS s.f0 s.f1 s.f2)
def nextP (s : S23) (l : S63) : Int := if l.f0 = 1 then wrap64 (wrap64 (nextW s l * (nextOut s l).f1) * (nextOut s l).f2) else if l.f0 = 2 then sizeS s.f0 s.f1 s.f2 else if l.f0 = 3 then 0 else nextW s l
def nextS (s : S23) (l : S63) : S96 := ⟨l, s, nextOut s l, nextW s l, nextP s l⟩
def stepV (x : S96) : Value := .agg #[.int .i64 x.f0.f0, .int .i64 x.f0.f1, .int .i64 x.f0.f2, .int .i64 x.f0.f3, .int .i64 x.f1.f0, .int .i64 x.f1.f1, .int .i64 x.f1.f2, .int .i64 x.f2.f0, .int .i64 x.f2.f1, .int .i64 x.f2.f2, .int .i64 x.f3, .int .i64 x.f4]
def NextPost (s : S23) (l : S63) (w : World) (e : Ending) (w' : World) : Prop :=
  (if nextIs s l = true then e = .returned (stepV (nextS s l)) else e = .panicked [{ v := wrongV 21, recovered := false }]) ∧ Below w.heap.size w w'

theorem blks4 (w : World) (A B C D : Obj) : ((((w.alloc A).alloc B).alloc C).alloc D).heap[w.heap.size]? = some A ∧ ((((w.alloc A).alloc B).alloc C).alloc D).heap[w.heap.size + 1]? = some B ∧ ((((w.alloc A).alloc B).alloc C).alloc D).heap[w.heap.size + 1 + 1]? = some C ∧ ((((w.alloc A).alloc B).alloc C).alloc D).heap[w.heap.size + 1 + 1 + 1]? = some D := by
  refine ⟨?_, ?_, ?_, ?_⟩ <;> simp only [World.alloc, Array.getElem?_push, Array.size_push] <;> (repeat' split) <;> first | rfl | omega | (exfalso; simp_all; done) | (exfalso; simp_all; omega)
theorem cells12 {w : World} {g : Nat} {x0 x1 x2 x3 x4 x5 x6 x7 x8 x9 x10 x11 : Value} {t : TypeId} (h : w.heap[g]? = some (.cells #[x0, x1, x2, x3, x4, x5, x6, x7, x8, x9, x10, x11] t (0, 0))) :
    w.cell? ⟨g, 0, none⟩ = some x0 ∧ w.cell? ⟨g, 1, none⟩ = some x1 ∧ w.cell? ⟨g, 2, none⟩ = some x2 ∧ w.cell? ⟨g, 3, none⟩ = some x3 ∧ w.cell? ⟨g, 4, none⟩ = some x4 ∧ w.cell? ⟨g, 5, none⟩ = some x5 ∧ w.cell? ⟨g, 6, none⟩ = some x6 ∧ w.cell? ⟨g, 7, none⟩ = some x7 ∧ w.cell? ⟨g, 8, none⟩ = some x8 ∧ w.cell? ⟨g, 9, none⟩ = some x9 ∧ w.cell? ⟨g, 10, none⟩ = some x10 ∧ w.cell? ⟨g, 11, none⟩ = some x11 :=
  ⟨(blk_cell h 0).trans rfl, (blk_cell h 1).trans rfl, (blk_cell h 2).trans rfl, (blk_cell h 3).trans rfl, (blk_cell h 4).trans rfl, (blk_cell h 5).trans rfl, (blk_cell h 6).trans rfl, (blk_cell h 7).trans rfl, (blk_cell h 8).trans rfl, (blk_cell h 9).trans rfl, (blk_cell h 10).trans rfl, (blk_cell h 11).trans rfl⟩
theorem frozen12 {w : World} {g : Nat} {x0 x1 x2 x3 x4 x5 x6 x7 x8 x9 x10 x11 : Value} {t : TypeId} (h : w.heap[g]? = some (.cells #[x0, x1, x2, x3, x4, x5, x6, x7, x8, x9, x10, x11] t (0, 0))) :
    w.frozen? ⟨g, 0, none⟩ = false ∧ w.frozen? ⟨g, 1, none⟩ = false ∧ w.frozen? ⟨g, 2, none⟩ = false ∧ w.frozen? ⟨g, 3, none⟩ = false ∧ w.frozen? ⟨g, 4, none⟩ = false ∧ w.frozen? ⟨g, 5, none⟩ = false ∧ w.frozen? ⟨g, 6, none⟩ = false ∧ w.frozen? ⟨g, 7, none⟩ = false ∧ w.frozen? ⟨g, 8, none⟩ = false ∧ w.frozen? ⟨g, 9, none⟩ = false ∧ w.frozen? ⟨g, 10, none⟩ = false ∧ w.frozen? ⟨g, 11, none⟩ = false :=
  ⟨blk_frozen h 0, blk_frozen h 1, blk_frozen h 2, blk_frozen h 3, blk_frozen h 4, blk_frozen h 5, blk_frozen h 6, blk_frozen h 7, blk_frozen h 8, blk_frozen h 9, blk_frozen h 10, blk_frozen h 11⟩
theorem cells4 {w : World} {g : Nat} {x0 x1 x2 x3 : Value} {t : TypeId} (h : w.heap[g]? = some (.cells #[x0, x1, x2, x3] t (0, 0))) :
    w.cell? ⟨g, 0, none⟩ = some x0 ∧ w.cell? ⟨g, 1, none⟩ = some x1 ∧ w.cell? ⟨g, 2, none⟩ = some x2 ∧ w.cell? ⟨g, 3, none⟩ = some x3 :=
  ⟨(blk_cell h 0).trans rfl, (blk_cell h 1).trans rfl, (blk_cell h 2).trans rfl, (blk_cell h 3).trans rfl⟩
theorem set12 {W : World} {g : Nat} {y0 y1 y2 y3 y4 y5 y6 y7 y8 y9 y10 y11 : Value} {t : TypeId} (x0 x1 x2 x3 x4 x5 x6 x7 x8 x9 x10 x11 : Value) (h : W.heap[g]? = some (.cells #[x0, x1, x2, x3, x4, x5, x6, x7, x8, x9, x10, x11] t (0, 0))) :
    ((((((((((((W.setCell ⟨g, 0, none⟩ y0).setCell ⟨g, 1, none⟩ y1).setCell ⟨g, 2, none⟩ y2).setCell ⟨g, 3, none⟩ y3).setCell ⟨g, 4, none⟩ y4).setCell ⟨g, 5, none⟩ y5).setCell ⟨g, 6, none⟩ y6).setCell ⟨g, 7, none⟩ y7).setCell ⟨g, 8, none⟩ y8).setCell ⟨g, 9, none⟩ y9).setCell ⟨g, 10, none⟩ y10).setCell ⟨g, 11, none⟩ y11).heap[g]? = some (.cells #[y0, y1, y2, y3, y4, y5, y6, y7, y8, y9, y10, y11] t (0, 0)) := by
  have h0 := blk_put (cs' := #[y0, x1, x2, x3, x4, x5, x6, x7, x8, x9, x10, x11]) h 0 y0 rfl
  have h1 := blk_put (cs' := #[y0, y1, x2, x3, x4, x5, x6, x7, x8, x9, x10, x11]) h0 1 y1 rfl
  have h2 := blk_put (cs' := #[y0, y1, y2, x3, x4, x5, x6, x7, x8, x9, x10, x11]) h1 2 y2 rfl
  have h3 := blk_put (cs' := #[y0, y1, y2, y3, x4, x5, x6, x7, x8, x9, x10, x11]) h2 3 y3 rfl
  have h4 := blk_put (cs' := #[y0, y1, y2, y3, y4, x5, x6, x7, x8, x9, x10, x11]) h3 4 y4 rfl
  have h5 := blk_put (cs' := #[y0, y1, y2, y3, y4, y5, x6, x7, x8, x9, x10, x11]) h4 5 y5 rfl
  have h6 := blk_put (cs' := #[y0, y1, y2, y3, y4, y5, y6, x7, x8, x9, x10, x11]) h5 6 y6 rfl
  have h7 := blk_put (cs' := #[y0, y1, y2, y3, y4, y5, y6, y7, x8, x9, x10, x11]) h6 7 y7 rfl
  have h8 := blk_put (cs' := #[y0, y1, y2, y3, y4, y5, y6, y7, y8, x9, x10, x11]) h7 8 y8 rfl
  have h9 := blk_put (cs' := #[y0, y1, y2, y3, y4, y5, y6, y7, y8, y9, x10, x11]) h8 9 y9 rfl
  have h10 := blk_put (cs' := #[y0, y1, y2, y3, y4, y5, y6, y7, y8, y9, y10, x11]) h9 10 y10 rfl
  have h11 := blk_put (cs' := #[y0, y1, y2, y3, y4, y5, y6, y7, y8, y9, y10, y11]) h10 11 y11 rfl
  exact h11
theorem below12 {w W : World} {g : Nat} (y0 y1 y2 y3 y4 y5 y6 y7 y8 y9 y10 y11 : Value) (hb : Below w.heap.size w W) (hg : w.heap.size ≤ g) : Below w.heap.size w ((((((((((((W.setCell ⟨g, 0, none⟩ y0).setCell ⟨g, 1, none⟩ y1).setCell ⟨g, 2, none⟩ y2).setCell ⟨g, 3, none⟩ y3).setCell ⟨g, 4, none⟩ y4).setCell ⟨g, 5, none⟩ y5).setCell ⟨g, 6, none⟩ y6).setCell ⟨g, 7, none⟩ y7).setCell ⟨g, 8, none⟩ y8).setCell ⟨g, 9, none⟩ y9).setCell ⟨g, 10, none⟩ y10).setCell ⟨g, 11, none⟩ y11) := by
  iterate 12 refine below_set ?_ hg
  exact hb
set_option maxHeartbeats 2000000 in
theorem results96 {W : World} {g : Nat} {x0 x1 x2 x3 x4 x5 x6 x7 x8 x9 x10 x11 : Value} {tmps : Array Value} (hs : tmps[4]?.getD undef = .pointer (some ⟨g, 0, none⟩)) (h : W.heap[g]? = some (.cells #[x0, x1, x2, x3, x4, x5, x6, x7, x8, x9, x10, x11] 96 (0, 0))) :
    (results Try.f71 tmps).run Try.prog W = .ok (.agg #[x0, x1, x2, x3, x4, x5, x6, x7, x8, x9, x10, x11]) W := by
  obtain ⟨c0, c1, c2, c3, c4, c5, c6, c7, c8, c9, c10, c11⟩ := cells12 h
  have hu96 := Try.underlying96
  have hu63 := Try.underlying63
  have hu23 := Try.underlying23
  simp [results, Try.results71, go_sem, hs, c0, c1, c2, c3, c4, c5, c6, c7, c8, c9, c10, c11]

section
variable {W : World} {g : Nat} {x0 x1 x2 x3 x4 x5 x6 x7 x8 x9 x10 x11 : Value}
set_option maxHeartbeats 2000000 in
theorem load96 {o : Oper} {ev : Operand → Value} {x : Operand} (ho : o.op = .load 96 x) (hx : ev x = .pointer (some ⟨g, 0, none⟩)) (h : W.heap[g]? = some (.cells #[x0, x1, x2, x3, x4, x5, x6, x7, x8, x9, x10, x11] 96 (0, 0))) :
    (execOp ev o).run Try.prog W = .ok (.value (.agg #[x0, x1, x2, x3, x4, x5, x6, x7, x8, x9, x10, x11])) W := by
  obtain ⟨c0, c1, c2, c3, c4, c5, c6, c7, c8, c9, c10, c11⟩ := cells12 h
  have hu96 := Try.underlying96
  have hu63 := Try.underlying63
  have hu23 := Try.underlying23
  unfold execOp
  simp [ho, hx, go_sem, c0, c1, c2, c3, c4, c5, c6, c7, c8, c9, c10, c11]
set_option maxHeartbeats 4000000 in
theorem store96 {o : Oper} {ev : Operand → Value} {x y : Operand} {n0 n1 n2 n3 n4 n5 n6 n7 n8 n9 n10 n11 : Int} (ho : o.op = .store 96 x y) (hx : ev x = .pointer (some ⟨g, 0, none⟩)) (hy : ev y = .agg #[.int .i64 n0, .int .i64 n1, .int .i64 n2, .int .i64 n3, .int .i64 n4, .int .i64 n5, .int .i64 n6, .int .i64 n7, .int .i64 n8, .int .i64 n9, .int .i64 n10, .int .i64 n11]) (h : W.heap[g]? = some (.cells #[x0, x1, x2, x3, x4, x5, x6, x7, x8, x9, x10, x11] 96 (0, 0))) :
    (execOp ev o).run Try.prog W = .ok .skip ((((((((((((W.setCell ⟨g, 0, none⟩ (.int .i64 n0)).setCell ⟨g, 1, none⟩ (.int .i64 n1)).setCell ⟨g, 2, none⟩ (.int .i64 n2)).setCell ⟨g, 3, none⟩ (.int .i64 n3)).setCell ⟨g, 4, none⟩ (.int .i64 n4)).setCell ⟨g, 5, none⟩ (.int .i64 n5)).setCell ⟨g, 6, none⟩ (.int .i64 n6)).setCell ⟨g, 7, none⟩ (.int .i64 n7)).setCell ⟨g, 8, none⟩ (.int .i64 n8)).setCell ⟨g, 9, none⟩ (.int .i64 n9)).setCell ⟨g, 10, none⟩ (.int .i64 n10)).setCell ⟨g, 11, none⟩ (.int .i64 n11)) := by
  obtain ⟨c0, c1, c2, c3, c4, c5, c6, c7, c8, c9, c10, c11⟩ := cells12 h
  obtain ⟨f0, f1, f2, f3, f4, f5, f6, f7, f8, f9, f10, f11⟩ := frozen12 h
  clear h
  have hu96 := Try.underlying96
  have hu63 := Try.underlying63
  have hu23 := Try.underlying23
  unfold execOp
  simp [ho, hx, hy, go_sem, c0, c1, c2, c3, c4, c5, c6, c7, c8, c9, c10, c11, f0, f1, f2, f3, f4, f5, f6, f7, f8, f9, f10, f11]
end
theorem put5 {W : World} {g : Nat} {x0 x1 x2 x3 x4 x5 x6 x7 x8 x9 x10 x11 y7 y8 y9 y10 y11 : Value} {t : TypeId} (h : W.heap[g]? = some (.cells #[x0, x1, x2, x3, x4, x5, x6, x7, x8, x9, x10, x11] t (0, 0))) :
    (((((W.setCell ⟨g, 7, none⟩ y7).setCell ⟨g, 8, none⟩ y8).setCell ⟨g, 9, none⟩ y9).setCell ⟨g, 10, none⟩ y10).setCell ⟨g, 11, none⟩ y11).heap[g]? = some (.cells #[x0, x1, x2, x3, x4, x5, x6, y7, y8, y9, y10, y11] t (0, 0)) := by
  have h7 := blk_put (cs' := #[x0, x1, x2, x3, x4, x5, x6, y7, x8, x9, x10, x11]) h 7 y7 rfl
  have h8 := blk_put (cs' := #[x0, x1, x2, x3, x4, x5, x6, y7, y8, x9, x10, x11]) h7 8 y8 rfl
  have h9 := blk_put (cs' := #[x0, x1, x2, x3, x4, x5, x6, y7, y8, y9, x10, x11]) h8 9 y9 rfl
  have h10 := blk_put (cs' := #[x0, x1, x2, x3, x4, x5, x6, y7, y8, y9, y10, x11]) h9 10 y10 rfl
  have h11 := blk_put (cs' := #[x0, x1, x2, x3, x4, x5, x6, y7, y8, y9, y10, y11]) h10 11 y11 rfl
  exact h11
theorem far5 {W : World} {g g2 : Nat} {y7 y8 y9 y10 y11 : Value} {cs : Array Value} {t : TypeId} (hn : g2 ≠ g) (h : W.heap[g2]? = some (.cells cs t (0, 0))) : (((((W.setCell ⟨g, 7, none⟩ y7).setCell ⟨g, 8, none⟩ y8).setCell ⟨g, 9, none⟩ y9).setCell ⟨g, 10, none⟩ y10).setCell ⟨g, 11, none⟩ y11).heap[g2]? = some (.cells cs t (0, 0)) := by
  iterate 5 refine blk_far ?_ hn _
  exact h
theorem bel5 {w W : World} {g : Nat} {y7 y8 y9 y10 y11 : Value} (hg : w.heap.size ≤ g) (h : Below w.heap.size w W) : Below w.heap.size w (((((W.setCell ⟨g, 7, none⟩ y7).setCell ⟨g, 8, none⟩ y8).setCell ⟨g, 9, none⟩ y9).setCell ⟨g, 10, none⟩ y10).setCell ⟨g, 11, none⟩ y11) := by
  iterate 5 refine below_set ?_ hg
  exact h
theorem put3 {W : World} {g : Nat} {x0 x1 x2 x3 x4 x5 x6 x7 x8 x9 x10 x11 y7 y8 y9 : Value} {t : TypeId} (h : W.heap[g]? = some (.cells #[x0, x1, x2, x3, x4, x5, x6, x7, x8, x9, x10, x11] t (0, 0))) :
    (((W.setCell ⟨g, 7, none⟩ y7).setCell ⟨g, 8, none⟩ y8).setCell ⟨g, 9, none⟩ y9).heap[g]? = some (.cells #[x0, x1, x2, x3, x4, x5, x6, y7, y8, y9, x10, x11] t (0, 0)) := by
  have h7 := blk_put (cs' := #[x0, x1, x2, x3, x4, x5, x6, y7, x8, x9, x10, x11]) h 7 y7 rfl
  have h8 := blk_put (cs' := #[x0, x1, x2, x3, x4, x5, x6, y7, y8, x9, x10, x11]) h7 8 y8 rfl
  have h9 := blk_put (cs' := #[x0, x1, x2, x3, x4, x5, x6, y7, y8, y9, x10, x11]) h8 9 y9 rfl
  exact h9
theorem far3 {W : World} {g g2 : Nat} {y7 y8 y9 : Value} {cs : Array Value} {t : TypeId} (hn : g2 ≠ g) (h : W.heap[g2]? = some (.cells cs t (0, 0))) : (((W.setCell ⟨g, 7, none⟩ y7).setCell ⟨g, 8, none⟩ y8).setCell ⟨g, 9, none⟩ y9).heap[g2]? = some (.cells cs t (0, 0)) := by
  iterate 3 refine blk_far ?_ hn _
  exact h
theorem bel3 {w W : World} {g : Nat} {y7 y8 y9 : Value} (hg : w.heap.size ≤ g) (h : Below w.heap.size w W) : Below w.heap.size w (((W.setCell ⟨g, 7, none⟩ y7).setCell ⟨g, 8, none⟩ y8).setCell ⟨g, 9, none⟩ y9) := by
  iterate 3 refine below_set ?_ hg
  exact h
theorem put1 {W : World} {g : Nat} {x0 x1 x2 x3 x4 x5 x6 x7 x8 x9 x10 x11 y11 : Value} {t : TypeId} (h : W.heap[g]? = some (.cells #[x0, x1, x2, x3, x4, x5, x6, x7, x8, x9, x10, x11] t (0, 0))) :
    (W.setCell ⟨g, 11, none⟩ y11).heap[g]? = some (.cells #[x0, x1, x2, x3, x4, x5, x6, x7, x8, x9, x10, y11] t (0, 0)) := by
  have h11 := blk_put (cs' := #[x0, x1, x2, x3, x4, x5, x6, x7, x8, x9, x10, y11]) h 11 y11 rfl
  exact h11
theorem far1 {W : World} {g g2 : Nat} {y11 : Value} {cs : Array Value} {t : TypeId} (hn : g2 ≠ g) (h : W.heap[g2]? = some (.cells cs t (0, 0))) : (W.setCell ⟨g, 11, none⟩ y11).heap[g2]? = some (.cells cs t (0, 0)) := by
  iterate 1 refine blk_far ?_ hn _
  exact h
theorem bel1 {w W : World} {g : Nat} {y11 : Value} (hg : w.heap.size ≤ g) (h : Below w.heap.size w W) : Below w.heap.size w (W.setCell ⟨g, 11, none⟩ y11) := by
  iterate 1 refine below_set ?_ hg
  exact h
theorem put2 {W : World} {g : Nat} {x0 x1 x2 x3 x4 x5 x6 x7 x8 x9 x10 x11 y10 y11 : Value} {t : TypeId} (h : W.heap[g]? = some (.cells #[x0, x1, x2, x3, x4, x5, x6, x7, x8, x9, x10, x11] t (0, 0))) :
    ((W.setCell ⟨g, 10, none⟩ y10).setCell ⟨g, 11, none⟩ y11).heap[g]? = some (.cells #[x0, x1, x2, x3, x4, x5, x6, x7, x8, x9, y10, y11] t (0, 0)) := by
  have h10 := blk_put (cs' := #[x0, x1, x2, x3, x4, x5, x6, x7, x8, x9, y10, x11]) h 10 y10 rfl
  have h11 := blk_put (cs' := #[x0, x1, x2, x3, x4, x5, x6, x7, x8, x9, y10, y11]) h10 11 y11 rfl
  exact h11
theorem far2 {W : World} {g g2 : Nat} {y10 y11 : Value} {cs : Array Value} {t : TypeId} (hn : g2 ≠ g) (h : W.heap[g2]? = some (.cells cs t (0, 0))) : ((W.setCell ⟨g, 10, none⟩ y10).setCell ⟨g, 11, none⟩ y11).heap[g2]? = some (.cells cs t (0, 0)) := by
  iterate 2 refine blk_far ?_ hn _
  exact h
theorem bel2 {w W : World} {g : Nat} {y10 y11 : Value} (hg : w.heap.size ≤ g) (h : Below w.heap.size w W) : Below w.heap.size w ((W.setCell ⟨g, 10, none⟩ y10).setCell ⟨g, 11, none⟩ y11) := by
  iterate 2 refine below_set ?_ hg
  exact h
end Go.Proofs.Ytjegihodmidhoaa.G
namespace Go.Proofs.Ytjegihodmidhoaa.G
open Go.RowKit Go.Proofs.YtjegihodmidhoaaW.PrintWords Go.Proofs.YtjegihodmidhoaaW.PrintLast Go.Proofs.YtjegihodmidhoaaW.PrintMore
set_option linter.unusedVariables false
set_option linter.unusedSimpArgs false
set_option maxRecDepth 100000 in
set_option maxHeartbeats 4000000 in
theorem next_square (s : S23) (l : S63) (w : World) (hk : (l.f0 == 2) = true) :
    Calls Try.prog 71 #[.agg #[.int .i64 s.f0, .int .i64 s.f1, .int .i64 s.f2], .agg #[.int .i64 l.f0, .int .i64 l.f1, .int .i64 l.f2, .int .i64 l.f3]] w (NextPost s l w) := by
  have hu23 := Try.underlying23
  have hu63 := Try.underlying63
  have hu96 := Try.underlying96
  have k1 : (l.f0 == 1) = false := by simp at hk ⊢; omega
  have hfin : nextIs s l = true ∧ nextS s l = ⟨l, s, s, 0, sizeS s.f0 s.f1 s.f2⟩ := by
    have h2 : l.f0 = 2 := by simpa using hk
    simp [nextIs, nextS, nextOut, nextW, nextP, h2]
  have HF := Aside0.mk hfin
  clear hfin
  go_enter Try.func71, Try.ntmps71
  go_wp2_with fail
  refine (shape_Size.calls s.f0 s.f1 s.f2 _ _ (size_eq _ _ _)).mono ?_
  generalize sizeS s.f0 s.f1 s.f2 = z at HF
  rintro e w1 ⟨rfl, hb⟩
  have hB : Below w.heap.size w w1 := below_then (by repeat (first | exact Below.refl _ _ | apply below_alloc | apply pw_below_drewN | apply below_drew)) (by simp; omega) hb
  have hin := blk_below (blks4 w _ _ _ _).1 hb
  have hl := blk_below (blks4 w _ _ _ _).2.1 hb
  have hres := blk_below (blks4 w _ _ _ _).2.2.1 hb
  have hs := blk_below (blks4 w _ _ _ _).2.2.2 hb
  clear hb
  obtain ⟨⟨i0, i1, i2⟩, _, _, _⟩ := cells3 hin
  obtain ⟨l0, l1, l2, l3⟩ := cells4 hl
  obtain ⟨a0, a1, a2, a3, a4, a5, a6, a7, a8, a9, a10, a11⟩ := cells12 hs
  obtain ⟨r0, r1, r2, r3, r4, r5, r6, r7, r8, r9, r10, r11⟩ := cells12 hres
  obtain ⟨p0, p1, p2, p3, p4, p5, p6, p7, p8, p9, p10, p11⟩ := frozen12 hs
  obtain ⟨q0, q1, q2, q3, q4, q5, q6, q7, q8, q9, q10, q11⟩ := frozen12 hres
  have HRES := Aside0.mk hres
  have hN2 : w.heap.size ≤ w.heap.size + 1 + 1 := by omega
  have hN3 : w.heap.size ≤ w.heap.size + 1 + 1 + 1 := by omega
  have hNN : w.heap.size + 1 + 1 ≠ w.heap.size + 1 + 1 + 1 := by omega
  clear hs hres hin hl
  go_wp2_with (first | (go_at_call 69; refine (must_yes _ _).mono ?_; rintro e w' ⟨rfl, rfl⟩) | (go_at_call 69; refine (must_no _ _).mono ?_; rintro e w' ⟨rfl, rfl⟩))
  exact bodyPost_ret (v := stepV ⟨l, s, s, 0, z⟩) (results96 rfl (set12 _ _ _ _ _ _ _ _ _ _ _ _ (by repeat (first | (with_reducible exact HRES.out) | refine blk_far ?_ hNN _)))) rfl ⟨by rw [if_pos HF.out.1, HF.out.2], below12 _ _ _ _ _ _ _ _ _ _ _ _ (by repeat (first | (with_reducible exact hB) | refine below_set ?_ hN3)) hN2⟩
end Go.Proofs.Ytjegihodmidhoaa.G
namespace Go.Proofs.Ytjegihodmidhoaa.G
open Go.RowKit Go.Proofs.YtjegihodmidhoaaW.PrintWords Go.Proofs.YtjegihodmidhoaaW.PrintLast Go.Proofs.YtjegihodmidhoaaW.PrintMore
set_option linter.unusedVariables false
set_option linter.unusedSimpArgs false
set_option maxRecDepth 100000 in
set_option maxHeartbeats 4000000 in
theorem next_conv (s : S23) (l : S63) (w : World) (hk : (l.f0 == 1) = true) (hR : shR s.f0 s.f1 s.f2 = true) (h1 : 0 ≤ s.f1 ∧ s.f1 ≤ 12) (h2 : 0 ≤ s.f2 ∧ s.f2 ≤ 12) (hsz : l.f2 ≤ 999999) :
    Calls Try.prog 71 #[.agg #[.int .i64 s.f0, .int .i64 s.f1, .int .i64 s.f2], .agg #[.int .i64 l.f0, .int .i64 l.f1, .int .i64 l.f2, .int .i64 l.f3]] w (NextPost s l w) := by
  have hu23 := Try.underlying23
  have hu63 := Try.underlying63
  have hu96 := Try.underlying96
  have hfin : nextIs s l = shR l.f1 (sideC l.f2 l.f3 s.f1) (sideC l.f2 l.f3 s.f2) ∧ nextOut s l = (if shR l.f1 (sideC l.f2 l.f3 s.f1) (sideC l.f2 l.f3 s.f2) = true then ⟨l.f1, sideC l.f2 l.f3 s.f1, sideC l.f2 l.f3 s.f2⟩ else z23) := by
    have h2 : l.f0 = 1 := by simpa using hk
    simp [nextIs, nextOut, h2]
  have hw1 : nextW s l = wrap64 (wrap64 (wrap64 (l.f1 * s.f0) * l.f2) * l.f2) := by
    have h2 : l.f0 = 1 := by simpa using hk
    simp [nextW, h2]
  have hp1 : nextP s l = wrap64 (wrap64 (nextW s l * (nextOut s l).f1) * (nextOut s l).f2) := by
    have h2 : l.f0 = 1 := by simpa using hk
    simp [nextP, h2]
  have HF0 := Aside0.mk hfin
  have HW := Aside0.mk hw1
  have HP := Aside0.mk hp1
  clear hfin hw1 hp1
  go_enter Try.func71, Try.ntmps71
  go_wp2_with fail
  refine (shape_Conv_calls s.f0 s.f1 s.f2 l.f1 l.f2 l.f3 _ hR h1 h2).mono ?_
  clear hR h1 h2
  rintro e w1 ⟨rfl, hb⟩
  have hB : Below w.heap.size w w1 := below_then (by repeat (first | exact Below.refl _ _ | apply below_alloc | apply pw_below_drewN | apply below_drew)) (by simp; omega) hb
  have hin := blk_below (blks4 w _ _ _ _).1 hb
  have hl := blk_below (blks4 w _ _ _ _).2.1 hb
  have HRES := Aside0.mk (blk_below (blks4 w _ _ _ _).2.2.1 hb)
  have HS := Aside0.mk (blk_below (blks4 w _ _ _ _).2.2.2 hb)
  clear hb
  have hN2 : w.heap.size ≤ w.heap.size + 1 + 1 := by omega
  have hN3 : w.heap.size ≤ w.heap.size + 1 + 1 + 1 := by omega
  have hNN : w.heap.size + 1 + 1 ≠ w.heap.size + 1 + 1 + 1 := by omega
  have hn1 : ¬ (w.heap.size = w.heap.size + 1 + 1 + 1) := by omega
  have hn2 : ¬ (w.heap.size + 1 = w.heap.size + 1 + 1 + 1) := by omega
  obtain ⟨⟨i0, _, _⟩, _, _, _⟩ := cells3 hin
  obtain ⟨_, l1, l2, _⟩ := cells4 hl
  clear hin hl
  obtain ⟨_, _, _, _, _, _, _, a7, a8, a9, a10, a11⟩ := cells12 HS.out
  obtain ⟨_, _, _, _, _, _, _, p7, p8, p9, p10, p11⟩ := frozen12 HS.out
  generalize hA : sideC l.f2 l.f3 s.f1 = A at HF0
  generalize hBs : sideC l.f2 l.f3 s.f2 = B at HF0
  generalize ht : shR l.f1 A B = t at HF0
  clear hA hBs ht
  cases t
  · rw [if_neg (by simp)] at HF0 ⊢
    have HF := Aside0.mk HF0.out.1
    clear HF0 HW HP
    go_wp2_with (go_at_call 69; refine (must_no _ _).mono ?_; rintro e w' ⟨rfl, rfl⟩)
    exact ⟨rfl, by rw [if_neg (by simp [HF.out])], bel5 hN3 hB⟩
  · rw [if_pos rfl] at HF0 ⊢
    have HF : Aside0 (nextIs s l = true ∧ nextS s l = ⟨l, s, ⟨l.f1, A, B⟩, wrap64 (wrap64 (wrap64 (l.f1 * s.f0) * l.f2) * l.f2), wrap64 (wrap64 (wrap64 (wrap64 (wrap64 (l.f1 * s.f0) * l.f2) * l.f2) * A) * B)⟩) := ⟨HF0.out.1, by rw [nextS, HP.out, HW.out, HF0.out.2]⟩
    clear HF0 HW HP
    go_wp2_with (first | (go_at_call 69; refine (must_yes _ _).mono ?_; rintro e w' ⟨rfl, rfl⟩) | ((with_reducible refine gate_ (.load 96 (.tmp 5)) rfl ?_); refine Kd.event_run rfl (load96 rfl rfl (put5 HS.out)) ?_) | ((with_reducible refine gate_store (t := 96) (p := 4) (v := .tmp 88) rfl ?_); refine store_event rfl (p := 4) rfl rfl (store96 rfl rfl rfl (far5 hNN HRES.out)) ?_; rintro w' rfl))
    exact bodyPost_ret (v := stepV ⟨l, s, ⟨l.f1, A, B⟩, wrap64 (wrap64 (wrap64 (l.f1 * s.f0) * l.f2) * l.f2), wrap64 (wrap64 (wrap64 (wrap64 (wrap64 (l.f1 * s.f0) * l.f2) * l.f2) * A) * B)⟩) (results96 rfl (set12 _ _ _ _ _ _ _ _ _ _ _ _ (far5 hNN HRES.out))) rfl ⟨by rw [if_pos HF.out.1, HF.out.2], below12 _ _ _ _ _ _ _ _ _ _ _ _ (bel5 hN3 hB) hN2⟩
end Go.Proofs.Ytjegihodmidhoaa.G
namespace Go.Proofs.Ytjegihodmidhoaa.G
open Go.RowKit Go.Proofs.YtjegihodmidhoaaW.PrintWords Go.Proofs.YtjegihodmidhoaaW.PrintLast Go.Proofs.YtjegihodmidhoaaW.PrintMore
set_option linter.unusedVariables false
set_option linter.unusedSimpArgs false
set_option maxRecDepth 100000 in
set_option maxHeartbeats 4000000 in
theorem next_pool (s : S23) (l : S63) (w : World) (hk : (l.f0 == 3) = true) (hR : shR s.f0 s.f1 s.f2 = true) (h1 : 0 ≤ s.f1 ∧ s.f1 ≤ 12) (h2 : 0 ≤ s.f2 ∧ s.f2 ≤ 12) (hsz : l.f2 ≤ 999999) :
    Calls Try.prog 71 #[.agg #[.int .i64 s.f0, .int .i64 s.f1, .int .i64 s.f2], .agg #[.int .i64 l.f0, .int .i64 l.f1, .int .i64 l.f2, .int .i64 l.f3]] w (NextPost s l w) := by
  have hu23 := Try.underlying23
  have hu63 := Try.underlying63
  have hu96 := Try.underlying96
  have k1 : (l.f0 == 1) = false := by simp at hk ⊢; omega
  have k2 : (l.f0 == 2) = false := by simp at hk ⊢; omega
  have hfin : nextIs s l = shR s.f0 (sideP l.f2 s.f1) (sideP l.f2 s.f2) ∧ nextOut s l = (if shR s.f0 (sideP l.f2 s.f1) (sideP l.f2 s.f2) = true then ⟨s.f0, sideP l.f2 s.f1, sideP l.f2 s.f2⟩ else z23) := by
    have h2 : l.f0 = 3 := by simpa using hk
    simp [nextIs, nextOut, h2]
  have hw1 : nextW s l = 0 := by
    have h2 : l.f0 = 3 := by simpa using hk
    simp [nextW, h2]
  have hp1 : nextP s l = 0 := by
    have h2 : l.f0 = 3 := by simpa using hk
    simp [nextP, h2]
  have HF0 := Aside0.mk hfin
  have HW := Aside0.mk hw1
  have HP := Aside0.mk hp1
  clear hfin hw1 hp1
  go_enter Try.func71, Try.ntmps71
  go_wp2_with fail
  refine (shape_Pool_calls s.f0 s.f1 s.f2 l.f2 _ hR h1 h2 hsz).mono ?_
  clear hR h1 h2
  rintro e w1 ⟨rfl, hb⟩
  have hB : Below w.heap.size w w1 := below_then (by repeat (first | exact Below.refl _ _ | apply below_alloc | apply pw_below_drewN | apply below_drew)) (by simp; omega) hb
  have hin := blk_below (blks4 w _ _ _ _).1 hb
  have hl := blk_below (blks4 w _ _ _ _).2.1 hb
  have HRES := Aside0.mk (blk_below (blks4 w _ _ _ _).2.2.1 hb)
  have HS := Aside0.mk (blk_below (blks4 w _ _ _ _).2.2.2 hb)
  clear hb
  have hN2 : w.heap.size ≤ w.heap.size + 1 + 1 := by omega
  have hN3 : w.heap.size ≤ w.heap.size + 1 + 1 + 1 := by omega
  have hNN : w.heap.size + 1 + 1 ≠ w.heap.size + 1 + 1 + 1 := by omega
  have hn1 : ¬ (w.heap.size = w.heap.size + 1 + 1 + 1) := by omega
  have hn2 : ¬ (w.heap.size + 1 = w.heap.size + 1 + 1 + 1) := by omega
  clear hin hl
  obtain ⟨_, _, _, _, _, _, _, a7, a8, a9, _, _⟩ := cells12 HS.out
  obtain ⟨_, _, _, _, _, _, _, p7, p8, p9, _, _⟩ := frozen12 HS.out
  generalize hA : sideP l.f2 s.f1 = A at HF0
  generalize hBs : sideP l.f2 s.f2 = B at HF0
  generalize ht : shR s.f0 A B = t at HF0
  clear hA hBs ht
  cases t
  · rw [if_neg (by simp)] at HF0 ⊢
    have HF := Aside0.mk HF0.out.1
    clear HF0 HW HP
    go_wp2_with (go_at_call 69; refine (must_no _ _).mono ?_; rintro e w' ⟨rfl, rfl⟩)
    exact ⟨rfl, by rw [if_neg (by simp [HF.out])], bel3 hN3 hB⟩
  · rw [if_pos rfl] at HF0 ⊢
    have HF : Aside0 (nextIs s l = true ∧ nextS s l = ⟨l, s, ⟨s.f0, A, B⟩, 0, 0⟩) := ⟨HF0.out.1, by rw [nextS, HP.out, HW.out, HF0.out.2]⟩
    clear HF0 HW HP
    go_wp2_with (first | (go_at_call 69; refine (must_yes _ _).mono ?_; rintro e w' ⟨rfl, rfl⟩) | ((with_reducible refine gate_ (.load 96 (.tmp 5)) rfl ?_); refine Kd.event_run rfl (load96 rfl rfl (put3 HS.out)) ?_) | ((with_reducible refine gate_store (t := 96) (p := 4) (v := .tmp 88) rfl ?_); refine store_event rfl (p := 4) rfl rfl (store96 rfl rfl rfl (far3 hNN HRES.out)) ?_; rintro w' rfl))
    exact bodyPost_ret (v := stepV ⟨l, s, ⟨s.f0, A, B⟩, 0, 0⟩) (results96 rfl (set12 _ _ _ _ _ _ _ _ _ _ _ _ (far3 hNN HRES.out))) rfl ⟨by rw [if_pos HF.out.1, HF.out.2], below12 _ _ _ _ _ _ _ _ _ _ _ _ (bel3 hN3 hB) hN2⟩
end Go.Proofs.Ytjegihodmidhoaa.G
namespace Go.Proofs.Ytjegihodmidhoaa.G
open Go.RowKit Go.Proofs.YtjegihodmidhoaaW.PrintWords Go.Proofs.YtjegihodmidhoaaW.PrintLast Go.Proofs.YtjegihodmidhoaaW.PrintMore
set_option linter.unusedVariables false
set_option linter.unusedSimpArgs false
theorem wrapE (n : Int) : IntKind.i64.wrap n = wrap64 n := by rw [IntKind.wrap_i64, wrap64]
def DenseMid (s : S23) (l : S63) (w : World) (is : Bool) (s6 : Value) (wx : World) : Prop :=
  s6 = .bool is ∧ wx.heap[w.heap.size]? = some (.cells #[.int .i64 s.f0, .int .i64 s.f1, .int .i64 s.f2] 23 (0, 0)) ∧ wx.heap[w.heap.size + 1]? = some (.cells #[.int .i64 l.f0, .int .i64 l.f1, .int .i64 l.f2, .int .i64 l.f3] 63 (0, 0)) ∧
  wx.heap[w.heap.size + 1 + 1]? = some (.cells #[.int .i64 0, .int .i64 0, .int .i64 0, .int .i64 0, .int .i64 0, .int .i64 0, .int .i64 0, .int .i64 0, .int .i64 0, .int .i64 0, .int .i64 0, .int .i64 0] 96 (0, 0)) ∧
  wx.heap[w.heap.size + 1 + 1 + 1]? = some (.cells #[.int .i64 l.f0, .int .i64 l.f1, .int .i64 l.f2, .int .i64 l.f3, .int .i64 s.f0, .int .i64 s.f1, .int .i64 s.f2, .int .i64 l.f1, .int .i64 1, .int .i64 1, .int .i64 0, .int .i64 0] 96 (0, 0)) ∧ Below w.heap.size w wx
theorem DenseMid.of (s : S23) (l : S63) (w : World) (is : Bool) : DenseMid s l w is (.bool is)
    ((((w.alloc (.cells #[.int .i64 s.f0, .int .i64 s.f1, .int .i64 s.f2] 23)).alloc (.cells #[.int .i64 l.f0, .int .i64 l.f1, .int .i64 l.f2, .int .i64 l.f3] 63)).alloc (.cells #[.int .i64 0, .int .i64 0, .int .i64 0, .int .i64 0, .int .i64 0, .int .i64 0, .int .i64 0, .int .i64 0, .int .i64 0, .int .i64 0, .int .i64 0, .int .i64 0] 96)).alloc
      (.cells #[.int .i64 l.f0, .int .i64 l.f1, .int .i64 l.f2, .int .i64 l.f3, .int .i64 s.f0, .int .i64 s.f1, .int .i64 s.f2, .int .i64 l.f1, .int .i64 1, .int .i64 1, .int .i64 0, .int .i64 0] 96)).drew := by
  refine ⟨rfl, (blks4 w _ _ _ _).1, (blks4 w _ _ _ _).2.1, (blks4 w _ _ _ _).2.2.1, (blks4 w _ _ _ _).2.2.2, below_drew ?_⟩
  repeat (first | exact Below.refl _ _ | apply below_alloc)
set_option maxRecDepth 100000 in
set_option maxHeartbeats 4000000 in
theorem next_dense (s : S23) (l : S63) (w : World) (k1 : (l.f0 == 1) = false) (k2 : (l.f0 == 2) = false) (k3 : (l.f0 == 3) = false) :
    Calls Try.prog 71 #[.agg #[.int .i64 s.f0, .int .i64 s.f1, .int .i64 s.f2], .agg #[.int .i64 l.f0, .int .i64 l.f1, .int .i64 l.f2, .int .i64 l.f3]] w (NextPost s l w) := by
  have hu23 := Try.underlying23
  have hu63 := Try.underlying63
  have hu96 := Try.underlying96
  have hfin : nextIs s l = (decide (1 ≤ l.f1) && decide (l.f1 ≤ 8)) ∧ nextS s l = ⟨l, s, ⟨l.f1, 1, 1⟩, wrap64 (l.f1 * sizeS s.f0 s.f1 s.f2), wrap64 (l.f1 * sizeS s.f0 s.f1 s.f2)⟩ := by
    have h1 : l.f0 ≠ 1 := by simpa using k1
    have h2 : l.f0 ≠ 2 := by simpa using k2
    have h3 : l.f0 ≠ 3 := by simpa using k3
    simp [nextIs, nextS, nextOut, nextW, nextP, h1, h2, h3]
  have HF := Aside0.mk hfin
  clear hfin
  go_enter Try.func71, Try.ntmps71
  go_upto_region 4 with fail
  go_cut [6] (fun s6 wx => DenseMid s l w (decide (1 ≤ l.f1) && decide (l.f1 ≤ 8)) s6 wx)
  case first =>
    by_cases h1 : 1 ≤ l.f1
    · have d1 : decide (1 ≤ l.f1) = true := decide_eq_true h1
      by_cases h2 : l.f1 ≤ 8
      · have d2 : decide (l.f1 ≤ 8) = true := decide_eq_true h2
        go_region
        go_wp2_with fail
        go_meet
        simp only [d1, d2, Bool.and_self, Bool.and_false, Bool.and_true]
        exact DenseMid.of s l w true
      · have d2 : decide (l.f1 ≤ 8) = false := decide_eq_false h2
        go_region
        go_wp2_with fail
        go_meet
        simp only [d1, d2, Bool.and_self, Bool.and_false, Bool.and_true]
        exact DenseMid.of s l w false
    · have d1 : decide (1 ≤ l.f1) = false := decide_eq_false h1
      go_region
      go_wp2_with fail
      go_meet
      simp only [d1, Bool.false_and]
      exact DenseMid.of s l w false
  case rest =>
    obtain ⟨rfl, hin, hl, hres, hs, hB⟩ := hcut
    generalize hz : sizeS s.f0 s.f1 s.f2 = z at HF
    have HZ := Aside0.mk hz
    clear hz
    generalize hz2 : wrap64 (l.f1 * z) = z2 at HF
    have HZ2 := Aside0.mk hz2
    clear hz2
    generalize hbb : (decide (1 ≤ l.f1) && decide (l.f1 ≤ 8)) = bb at HF
    clear hbb
    obtain ⟨⟨i0, i1, i2⟩, _, _, _⟩ := cells3 hin
    obtain ⟨_, l1, _, _⟩ := cells4 hl
    have a10 := (blk_cell hs 10).trans rfl
    have p10 := blk_frozen hs 10
    have HRES := Aside0.mk hres
    have HS := Aside0.mk hs
    have HIN := Aside0.mk hin
    have HL := Aside0.mk hl
    clear hin hl hres hs
    go_wp2_with fail
    go_region_with (go_at_call 40; refine (shape_Size.calls s.f0 s.f1 s.f2 _ _ (size_eq _ _ _)).mono ?_; rintro e w1 ⟨rfl, hb⟩; rw [HZ.out]; have e1 := pw_cell_below hb l1; have e2 := pw_cell_below hb a10; have e3 := (hb.frozen (World.block_lt_of_cell? _ _ a10)).trans p10)
    all_goals
      rw [wrapE, HZ2.out]
      replace hb : Below wc.heap.size wc w1 := ⟨hb.os, hb.tape, hb.output, hb.size, hb.block⟩
      have HS1 := Aside0.mk (blk_below HS.out hb)
      have HRES1 := Aside0.mk (blk_below HRES.out hb)
      have hB1 : Below w.heap.size w w1 := below_then hB hB.size hb
      have a11 := (blk_cell HS1.out 11).trans rfl
      have p11 := blk_frozen HS1.out 11
      have hN2 : w.heap.size ≤ w.heap.size + 1 + 1 := by omega
      have hN3 : w.heap.size ≤ w.heap.size + 1 + 1 + 1 := by omega
      have hNN : w.heap.size + 1 + 1 ≠ w.heap.size + 1 + 1 + 1 := by omega
      clear hb i0 i1 i2 l1 a10 p10 e1 HZ HZ2
      cases bb
      · go_wp2_with (go_at_call 69; refine (must_no _ _).mono ?_; rintro e w' ⟨rfl, rfl⟩)
        exact ⟨rfl, by rw [if_neg (by simp [HF.out.1])], bel2 hN3 hB1⟩
      · go_wp2_with (first | (go_at_call 69; refine (must_yes _ _).mono ?_; rintro e w' ⟨rfl, rfl⟩) | ((with_reducible refine gate_ (.load 96 (.tmp 5)) rfl ?_); refine Kd.event_run rfl (load96 rfl rfl (put2 HS1.out)) ?_) | ((with_reducible refine gate_store (t := 96) (p := 4) (v := .tmp 88) rfl ?_); refine store_event rfl (p := 4) rfl rfl (store96 rfl rfl rfl (far2 hNN HRES1.out)) ?_; rintro w' rfl))
        exact bodyPost_ret (v := stepV ⟨l, s, ⟨l.f1, 1, 1⟩, z2, z2⟩) (results96 rfl (set12 _ _ _ _ _ _ _ _ _ _ _ _ (far2 hNN HRES1.out))) rfl ⟨by rw [if_pos HF.out.1, HF.out.2], below12 _ _ _ _ _ _ _ _ _ _ _ _ (bel2 hN3 hB1) hN2⟩
end Go.Proofs.Ytjegihodmidhoaa.G
namespace Go.Proofs.Ytjegihodmidhoaa.G
open Go.RowKit Go.Proofs.YtjegihodmidhoaaW.PrintWords Go.Proofs.YtjegihodmidhoaaW.PrintLast Go.Proofs.YtjegihodmidhoaaW.PrintMore
set_option linter.unusedVariables false
set_option linter.unusedSimpArgs false

set_option maxRecDepth 100000 in
theorem ta_nil (W : World) : (Instr.typeAssert .nilIface 20 111 true).run Try.prog W = .ok (.tuple #[.agg #[.int .i64 0], .bool false]) W := by rfl
set_option maxRecDepth 100000 in
theorem ta_some (v : Value) (W : World) : (Instr.typeAssert (.iface 111 v) 20 111 true).run Try.prog W = .ok (.tuple #[v, .bool true]) W := by rfl

set_option maxRecDepth 100000 in
set_option maxHeartbeats 2000000 in
theorem catch_idle (p q : Addr) (w : World) :
    CallsD Try.prog 68 #[.pointer (some p), .pointer (some q)] .returning w fun e u' w' => e = .returned (.tuple #[]) ∧ u' = .returning ∧ Below w.heap.size w w' := by
  have hu111 := Try.underlying111
  refine callsD_of_wpS Try.func68 rfl fun c₀ cs hu => ?_
  simp only [Try.ntmps68, List.size_toArray, List.length_cons, List.length_nil, Nat.reduceAdd, Nat.reduceSub, Array.replicate_succ, Array.replicate_zero, List.push_toArray, List.append_toArray, List.nil_append, List.cons_append]
  apply wpS_seq
  apply wpS_region
  simp [wpOpsS, go_sem, recoverD, hu, Exit.thenS, ta_nil]
  refine wpS_of_wp ?_
  go_wp2
  refine ⟨rfl, .returning, by rw [← hu], ?_⟩
  exact ⟨_, results_none rfl _ _ _, rfl, rfl, below_alloc (Below.refl _ _) _⟩

set_option maxRecDepth 100000 in
set_option maxHeartbeats 2000000 in
theorem catch_wrong (p q : Nat) (x : Int) (y : Value) (cv : Int) (w : World) (hp : w.heap[p]? = some (.cells #[y] 92 (0, 0))) (hpq : ¬ p = q) (hq : w.heap[q]? = some (.cells #[.int .i64 cv] 39 (0, 0))) :
    CallsD Try.prog 68 #[.pointer (some ⟨p, 0, none⟩), .pointer (some ⟨q, 0, none⟩)] (.panicking [{ v := wrongV x, recovered := false }]) w fun e u' w' => e = .returned (.tuple #[]) ∧ u' = .panicking [{ v := wrongV x, recovered := true }] ∧
      w'.heap[p]? = some (.cells #[.slice none 0 0] 92 (0, 0)) ∧ w'.heap[q]? = some (.cells #[.int .i64 x] 39 (0, 0)) ∧ ∀ B, B ≤ p → B ≤ q → B ≤ w.heap.size → Below B w w' := by
  have hu111 := Try.underlying111
  refine callsD_of_wpS Try.func68 rfl fun c₀ cs hu => ?_
  simp only [Try.ntmps68, List.size_toArray, List.length_cons, List.length_nil, Nat.reduceAdd, Nat.reduceSub, Array.replicate_succ, Array.replicate_zero, List.push_toArray, List.append_toArray, List.nil_append, List.cons_append]
  apply wpS_seq
  apply wpS_region
  simp [wpOpsS, go_sem, recoverD, hu, Exit.thenS, wrongV, ta_some]
  refine wpS_of_wp ?_
  have p0 : w.cell? ⟨p, 0, none⟩ = some y := (blk_cell hp 0).trans rfl
  have q0 : w.cell? ⟨q, 0, none⟩ = some (.int .i64 cv) := (blk_cell hq 0).trans rfl
  have pf : w.frozen? ⟨p, 0, none⟩ = false := blk_frozen hp 0
  have qf : w.frozen? ⟨q, 0, none⟩ = false := blk_frozen hq 0
  have hpl := blk_lt hp
  have hql := blk_lt hq
  have hpn : ¬ p = w.heap.size := by omega
  have hqn : ¬ q = w.heap.size := by omega
  have hqp : ¬ q = p := fun h => hpq h.symm
  have HP := Aside0.mk hp
  have HQ := Aside0.mk hq
  have HU := Aside0.mk hu
  clear hp hq hu
  go_wp2
  go_region
  go_wp2
  refine ⟨rfl, .panicking [{ v := wrongV x, recovered := true }], rfl, ?_⟩
  refine ⟨_, results_none rfl _ _ _, rfl, rfl, ?_, ?_, ?_⟩
  · exact blk_alloc (blk_far (blk_set HP.out 0 _) (p := ⟨q, 0, none⟩) hpq _) _
  · exact blk_alloc (blk_set (blk_far HQ.out (p := ⟨p, 0, none⟩) hqp _) 0 _) _
  · intro B h1 h2 h3
    exact ((((Below.refl B w).setCell (p := ⟨p, 0, none⟩) h1 _).setCell (p := ⟨q, 0, none⟩) h2 _).alloc (by simpa using h3) _).drew
end Go.Proofs.Ytjegihodmidhoaa.G
namespace Go.Proofs.Ytjegihodmidhoaa.G
open Go.RowKit Go.Proofs.YtjegihodmidhoaaW.PrintWords Go.Proofs.YtjegihodmidhoaaW.PrintLast Go.Proofs.YtjegihodmidhoaaW.PrintMore
set_option linter.unusedVariables false
set_option linter.unusedSimpArgs false

/-- The steps of layers, from a shape on, and the shape behind them. -/
def stepsTo : S23 → List S63 → Option (List S96 × S23)
  | s, [] => some ([], s)
  | s, l :: ls => if nextIs s l = true then (stepsTo (nextOut s l) ls).map fun r => (nextS s l :: r.1, r.2) else none
theorem stepsTo_snoc (s : S23) (ls : List S63) (x : S63) : stepsTo s (ls ++ [x]) = (stepsTo s ls).bind fun r => if nextIs r.2 x = true then some (r.1 ++ [nextS r.2 x], nextOut r.2 x) else none := by
  induction ls generalizing s with
  | nil => simp only [List.nil_append, stepsTo, Option.bind_some]; split <;> simp [stepsTo]
  | cons l ls ih =>
    simp only [List.cons_append, stepsTo]
    by_cases h : nextIs s l = true
    · rw [if_pos h, if_pos h, ih]
      cases stepsTo (nextOut s l) ls with
      | none => rfl
      | some r => simp only [Option.bind_some, Option.map_some]; split <;> rfl
    · rw [if_neg h, if_neg h]; rfl
theorem stepsTo_length {s : S23} {ls : List S63} {r : List S96 × S23} (h : stepsTo s ls = some r) : r.1.length = ls.length := by
  induction ls generalizing s r with
  | nil => simp only [stepsTo, Option.some.injEq] at h; subst h; rfl
  | cons l ls ih =>
    simp only [stepsTo] at h
    split at h
    · cases h2 : stepsTo (nextOut s l) ls with
      | none => rw [h2] at h; cases h
      | some q => rw [h2] at h; simp only [Option.map_some, Option.some.injEq] at h; subst h; simp [ih h2]
    · cases h
theorem wiB_iff {n a b : Int} : wiB n a b = true ↔ a ≤ n ∧ n ≤ b := by simp [wiB]
theorem shR_bd {a b c : Int} (h : shR a b c = true) : (1 ≤ a ∧ a ≤ 8) ∧ (1 ≤ b ∧ b ≤ 12) ∧ (1 ≤ c ∧ c ≤ 12) := by
  simp only [shR, Bool.and_eq_true, wiB_iff] at h
  exact ⟨h.1, h.2.1, h.2.2.1⟩
theorem shR_out {s : S23} {l : S63} (hs : shR s.f0 s.f1 s.f2 = true) (h : nextIs s l = true) : shR (nextOut s l).f0 (nextOut s l).f1 (nextOut s l).f2 = true := by
  unfold nextIs at h
  unfold nextOut
  by_cases h1 : l.f0 = 1
  · simp only [if_pos h1] at h ⊢; rw [if_pos h]; exact h
  · by_cases h2 : l.f0 = 2
    · simp only [if_neg h1, if_pos h2]; exact hs
    · by_cases h3 : l.f0 = 3
      · simp only [if_neg h1, if_neg h2, if_pos h3] at h ⊢; rw [if_pos h]; exact h
      · simp only [if_neg h1, if_neg h2, if_neg h3] at h ⊢
        simp only [Bool.and_eq_true, decide_eq_true_eq] at h
        have hw : wrap64 (wrap64 (l.f1 * 1) * 1) = l.f1 := by unfold wrap64; omega
        simp only [shR, Bool.and_eq_true, wiB_iff, hw, decide_eq_true_eq]
        omega
theorem stepsTo_shR {s : S23} {ls : List S63} {r : List S96 × S23} (hs : shR s.f0 s.f1 s.f2 = true) (h : stepsTo s ls = some r) : shR r.2.f0 r.2.f1 r.2.f2 = true := by
  induction ls generalizing s r with
  | nil => simp only [stepsTo, Option.some.injEq] at h; subst h; exact hs
  | cons l ls ih =>
    simp only [stepsTo] at h
    split at h
    · rename_i hi
      cases h2 : stepsTo (nextOut s l) ls with
      | none => rw [h2] at h; cases h
      | some q => rw [h2] at h; simp only [Option.map_some, Option.some.injEq] at h; subst h; exact ih (r := q) (shR_out hs hi) h2
    · cases h
def sumW (xs : List S96) : Int := xs.foldl (fun a x => wrap64 (a + x.f3)) 0
def sumP (xs : List S96) : Int := xs.foldl (fun a x => wrap64 (a + x.f4)) 0
theorem sumW_snoc (xs : List S96) (x : S96) : sumW (xs ++ [x]) = wrap64 (sumW xs + x.f3) := by simp [sumW, List.foldl_append]
theorem sumP_snoc (xs : List S96) (x : S96) : sumP (xs ++ [x]) = wrap64 (sumP xs + x.f4) := by simp [sumP, List.foldl_append]
def allS (a b c : Int) (ls : List S63) : List S96 × Int :=
  if formB a b c ls = true then (if shR a b c = true then (match stepsTo ⟨a, b, c⟩ ls with
    | none => ([], 21)
    | some r => if sumW r.1 ≤ 512 ∧ sumP r.1 ≤ 512 then (r.1, 0) else ([], 5)) else ([], 1)) else ([], 12)
def check_all.f (a0_0 : Int) (a0_1 : Int) (a0_2 : Int) (l0_3 : List (S63)) : Option ((List (S96)) × Int) := some (allS a0_0 a0_1 a0_2 l0_3)
theorem info96 : (Try.prog.info? 96).map (fun i => (i.zero, i.size, i.bytes)) = some (some (.agg #[.int .i64 0, .int .i64 0, .int .i64 0, .int .i64 0, .int .i64 0, .int .i64 0, .int .i64 0, .int .i64 0, .int .i64 0, .int .i64 0, .int .i64 0, .int .i64 0]), 12, 96) := by kernel_rfl

/-- check.next, whatever the kind. -/
theorem next_calls (s : S23) (l : S63) (w : World) (hR : shR s.f0 s.f1 s.f2 = true) (hf : formL l = true) :
    Calls Try.prog 71 #[.agg #[.int .i64 s.f0, .int .i64 s.f1, .int .i64 s.f2], .agg #[.int .i64 l.f0, .int .i64 l.f1, .int .i64 l.f2, .int .i64 l.f3]] w (NextPost s l w) := by
  obtain ⟨_, h1, h2⟩ := shR_bd hR
  by_cases k1 : l.f0 = 1
  · refine next_conv s l w (by simp [k1]) hR (by omega) (by omega) ?_
    simp [formL, hasOf, k1, inMost] at hf
    omega
  · by_cases k2 : l.f0 = 2
    · exact next_square s l w (by simp [k2])
    · by_cases k3 : l.f0 = 3
      · refine next_pool s l w (by simp [k3]) hR (by omega) (by omega) ?_
        simp [formL, hasOf, k3, inMost] at hf
        omega
      · exact next_dense s l w (by simp [k1]) (by simp [k2]) (by simp [k3])

def AllPost (w : World) (xs : List S96) (x : Int) (e : Ending) (w' : World) : Prop :=
  ∃ v : Value, e = .returned (.tuple #[v, .int .i64 x]) ∧ Kd.R k96 96 w' w.heap.size (fun _ => True) v xs ∧ Below w.heap.size w w'

section
variable {tmps : Array Value} {w W : World} {p q : Nat} {x cv : Int} {y : Value}
theorem door_panic (h2 : tmps[2]?.getD undef = .pointer (some ⟨p, 0, none⟩)) (h3 : tmps[3]?.getD undef = .pointer (some ⟨q, 0, none⟩)) (hp : W.heap[p]? = some (.cells #[y] 92 (0, 0))) (hq : W.heap[q]? = some (.cells #[.int .i64 cv] 39 (0, 0)))
    (hpq : ¬ p = q) (hB : Below w.heap.size w W) (hpw : w.heap.size ≤ p) (hqw : w.heap.size ≤ q) :
    Leaves Try.prog Try.f58 tmps (AllPost w [] x) [{ target := .fn (.func 68) #[.pointer (some ⟨p, 0, none⟩), .pointer (some ⟨q, 0, none⟩)], args := #[] }] (.panicking [{ v := wrongV x, recovered := false }]) W := by
  refine leaves_cons (f := 68) (args := #[.pointer (some ⟨p, 0, none⟩), .pointer (some ⟨q, 0, none⟩)]) (by simp) (by simp [go_sem]) ?_
  refine (catch_wrong p q x y cv W hp hpq hq).mono ?_
  rintro e u' w2 ⟨rfl, rfl, h4, h5, h6⟩
  have c0 : w2.cell? ⟨p, 0, none⟩ = some (.slice none 0 0) := (blk_cell h4 0).trans rfl
  have c1 : w2.cell? ⟨q, 0, none⟩ = some (.int .i64 x) := (blk_cell h5 0).trans rfl
  have hB2 : Below w.heap.size w w2 := hB.trans (h6 _ hpw hqw hB.size)
  refine ⟨.tuple #[.slice none 0 0, .int .i64 x], by simp [results, Try.results58, go_sem, h2, h3, c0, c1], _, rfl, Kd.R_nil _ _ _ _ _, hB2⟩
theorem door_ret {xs : List S96} {A : Option Addr} {n c : Nat} (h2 : tmps[2]?.getD undef = .pointer (some ⟨p, 0, none⟩)) (h3 : tmps[3]?.getD undef = .pointer (some ⟨q, 0, none⟩)) (hp : W.heap[p]? = some (.cells #[.slice A n c] 92 (0, 0))) (hq : W.heap[q]? = some (.cells #[.int .i64 x] 39 (0, 0)))
    (hB : Below w.heap.size w W) (hR : Kd.R k96 96 W w.heap.size (fun _ => True) (.slice A n c) xs) :
    Leaves Try.prog Try.f58 tmps (AllPost w xs x) [{ target := .fn (.func 68) #[.pointer (some ⟨p, 0, none⟩), .pointer (some ⟨q, 0, none⟩)], args := #[] }] .returning W := by
  refine leaves_cons (f := 68) (args := #[.pointer (some ⟨p, 0, none⟩), .pointer (some ⟨q, 0, none⟩)]) (by simp) (by simp [go_sem]) ?_
  refine (catch_idle ⟨p, 0, none⟩ ⟨q, 0, none⟩ W).mono ?_
  rintro e u' w2 ⟨rfl, rfl, hb⟩
  have c0 : w2.cell? ⟨p, 0, none⟩ = some (.slice A n c) := (blk_cell (blk_below hp hb) 0).trans rfl
  have c1 : w2.cell? ⟨q, 0, none⟩ = some (.int .i64 x) := (blk_cell (blk_below hq hb) 0).trans rfl
  have hB2 : Below w.heap.size w w2 := below_then hB hB.size hb
  refine ⟨.tuple #[.slice A n c, .int .i64 x], by simp [results, Try.results58, go_sem, h2, h3, c0, c1], _, rfl, Kd.R_below hR hb, hB2⟩
end
end Go.Proofs.Ytjegihodmidhoaa.G
namespace Go.Proofs.Ytjegihodmidhoaa.G
open Go.RowKit Go.Proofs.YtjegihodmidhoaaW.PrintWords Go.Proofs.YtjegihodmidhoaaW.PrintLast Go.Proofs.YtjegihodmidhoaaW.PrintMore
set_option linter.unusedVariables false
set_option linter.unusedSimpArgs false

/-- What the loop of check.all keeps: behind k layers. -/
def AllRel (c0 : S23) (ls : List S63) (w : World) (gi k : Nat) (s4 s5 : Value) (wr : World) : Prop :=
  ∃ (A : Option Addr) (c : Nat) (xs : List S96) (s : S23), stepsTo c0 (ls.take k) = some (xs, s) ∧ s4 = .int .i64 (sumW xs) ∧ s5 = .int .i64 (sumP xs) ∧
    wr.heap[w.heap.size + 1]? = some (.cells #[.slice A xs.length c] 92 (0, 0)) ∧ wr.heap[w.heap.size + 1 + 1]? = some (.cells #[.int .i64 0] 39 (0, 0)) ∧ wr.heap[gi]? = some (.cells #[.int .i64 s.f0, .int .i64 s.f1, .int .i64 s.f2] 23 (0, 0)) ∧
    Kd.R k96 96 wr w.heap.size (fun _ => True) (.slice A xs.length c) xs ∧ Below w.heap.size w wr
theorem AllRel.start {c0 : S23} {ls : List S63} {w W : World} {gi : Nat} (h1 : W.heap[w.heap.size + 1]? = some (.cells #[.slice none 0 0] 92 (0, 0))) (h2 : W.heap[w.heap.size + 1 + 1]? = some (.cells #[.int .i64 0] 39 (0, 0)))
    (h3 : W.heap[gi]? = some (.cells #[.int .i64 c0.f0, .int .i64 c0.f1, .int .i64 c0.f2] 23 (0, 0))) (hB : Below w.heap.size w W) : AllRel c0 ls w gi 0 (.int .i64 0) (.int .i64 0) W :=
  ⟨none, 0, [], c0, rfl, rfl, rfl, h1, h2, h3, Kd.R_nil _ _ _ _ _, hB⟩
def AllMid (w : World) (gi G : Nat) (xs : List S96) (p : S96) (wx : World) : Prop :=
  ∃ (A : Option Addr) (c : Nat), wx.heap[w.heap.size + 1]? = some (.cells #[.slice A (xs.length + 1) c] 92 (0, 0)) ∧ wx.heap[w.heap.size + 1 + 1]? = some (.cells #[.int .i64 0] 39 (0, 0)) ∧ wx.heap[gi]? = some (.cells #[.int .i64 p.f2.f0, .int .i64 p.f2.f1, .int .i64 p.f2.f2] 23 (0, 0)) ∧
    wx.cell? ⟨G, 10, none⟩ = some (.int .i64 p.f3) ∧ wx.cell? ⟨G, 11, none⟩ = some (.int .i64 p.f4) ∧ Kd.R k96 96 wx w.heap.size (fun _ => True) (.slice A (xs.length + 1) c) (xs ++ [p]) ∧ Below w.heap.size w wx

theorem formL_at {a b c : Int} {ls : List S63} (h : formB a b c ls = true) {k : Nat} (hk : k < ls.length) {x : S63} (hx : Aside0 (rd_T63 ls (k : Int) = x)) : formL x = true := by
  simp only [formB, Bool.and_eq_true] at h
  have := List.all_eq_true.1 h.2 (ls[k]) (List.getElem_mem hk)
  rw [← hx.out]
  simpa [rd_T63, List.getD_eq_getElem?_getD, List.getElem?_eq_getElem hk] using this

theorem stepsTo_bad {s : S23} {l1 : List S63} {x : S63} {l2 : List S63} {r : List S96 × S23} (h : stepsTo s l1 = some r) (hx : nextIs r.2 x = false) : stepsTo s (l1 ++ x :: l2) = none := by
  induction l1 generalizing s r with
  | nil => simp only [stepsTo, Option.some.injEq] at h; subst h; simp [stepsTo, hx]
  | cons l l1 ih =>
    simp only [stepsTo] at h
    split at h
    · rename_i hi
      cases h2 : stepsTo (nextOut s l) l1 with
      | none => rw [h2] at h; cases h
      | some q =>
        rw [h2] at h; simp only [Option.map_some, Option.some.injEq] at h; subst h
        simp [stepsTo, hi, ih (r := q) h2 hx]
    · cases h
theorem split_at {ls : List S63} {k : Nat} (hk : k < ls.length) {x : S63} (hx : Aside0 (rd_T63 ls (k : Int) = x)) : ls = ls.take k ++ x :: ls.drop (k + 1) := by
  have : ls[k] = x := by rw [← hx.out]; simp [rd_T63, List.getD_eq_getElem?_getD, List.getElem?_eq_getElem hk]
  rw [← this, ← List.drop_eq_getElem_cons hk, List.take_append_drop]
theorem allS_bad {a b c : Int} {ls : List S63} (hf : formB a b c ls = true) (hs : shR a b c = true) {k : Nat} {xs : List S96} {s : S23} (hst : stepsTo ⟨a, b, c⟩ (ls.take k) = some (xs, s)) (hk : k < ls.length) {x : S63} (hx : Aside0 (rd_T63 ls (k : Int) = x)) (hn : nextIs s x = false) : allS a b c ls = ([], 21) := by
  have h : stepsTo ⟨a, b, c⟩ ls = none := by
    rw [split_at hk hx]
    exact stepsTo_bad hst hn
  simp [allS, hf, hs, h]

theorem stepsTo_next {c0 : S23} {ls : List S63} {k : Nat} {xs : List S96} {s : S23} {x : S63} {p : S96} (hst : stepsTo c0 (ls.take k) = some (xs, s)) (hk : k < ls.length) (hx : Aside0 (rd_T63 ls (k : Int) = x)) (hn : nextIs s x = true) (hp : nextS s x = p) :
    stepsTo c0 (ls.take (k + 1)) = some (xs ++ [p], p.f2) := by
  have hg : ls[k] = x := by rw [← hx.out]; simp [rd_T63, List.getD_eq_getElem?_getD, List.getElem?_eq_getElem hk]
  rw [List.take_add_one, List.getElem?_eq_getElem hk, hg, Option.toList_some, stepsTo_snoc, hst, Option.bind_some, if_pos hn, hp, ← hp]
  rfl
theorem allS_fit {a b c : Int} {ls : List S63} {xs : List S96} {s : S23} (h : formB a b c ls = true ∧ shR a b c = true) (hst : stepsTo ⟨a, b, c⟩ ls = some (xs, s)) (hW : sumW xs ≤ 512) (hP : sumP xs ≤ 512) : allS a b c ls = (xs, 0) := by
  simp [allS, h.1, h.2, hst, hW, hP]
theorem allS_big {a b c : Int} {ls : List S63} {xs : List S96} {s : S23} (h : formB a b c ls = true ∧ shR a b c = true) (hst : stepsTo ⟨a, b, c⟩ ls = some (xs, s)) (hn : ¬ (sumW xs ≤ 512 ∧ sumP xs ≤ 512)) : allS a b c ls = ([], 5) := by
  simp only [allS, h.1, h.2, hst, if_true, if_neg hn]
theorem append96 {ops : Array Oper} {o : Oper} {a : Act} {Q : Exit → Act → World → Prop} {Kc : Act → World → Prop} {w W : World} {xs : List S96} {p : S96} {v : Value}
    (hw : Region.wanted o (yielded ops a.tmps) = true) (ho : o.op = .call { callee := .builtin .append, args := #[.tmp 30, .tmp 32], argTypes := #[92, 92] })
    (hs : a.eval (.tmp 30) = v) (hx : a.eval (.tmp 32) = .slice (some ⟨W.heap.size, 0, none⟩) 1 1) (HO : Kd.R k96 96 W w.heap.size (fun _ => True) v xs) (HB : Below w.heap.size w W) (hl : (xs.length + 1) * 96 ≤ 140737488355328)
    (h : ∀ v1 w1, Kd.R k96 96 w1 w.heap.size (fun _ => True) v1 (xs ++ [p]) → Below w.heap.size w w1 → W.grownBy w1 v.ownBlock → Kc (a.put o.dst v1) w1) :
    if Region.wanted o (yielded ops a.tmps) = true then Oper.wp Try.prog o a (W.alloc (.cells #[.int .i64 p.f0.f0, .int .i64 p.f0.f1, .int .i64 p.f0.f2, .int .i64 p.f0.f3, .int .i64 p.f1.f0, .int .i64 p.f1.f1, .int .i64 p.f1.f2, .int .i64 p.f2.f0, .int .i64 p.f2.f1, .int .i64 p.f2.f2, .int .i64 p.f3, .int .i64 p.f4] 96)) Kc Q else Kc (a.put o.dst undef) (W.alloc (.cells #[.int .i64 p.f0.f0, .int .i64 p.f0.f1, .int .i64 p.f0.f2, .int .i64 p.f0.f3, .int .i64 p.f1.f0, .int .i64 p.f1.f1, .int .i64 p.f1.f2, .int .i64 p.f2.f0, .int .i64 p.f2.f1, .int .i64 p.f2.f2, .int .i64 p.f3, .int .i64 p.f4] 96)) :=
  Kd.R_append_step k96 (w0 := w) (W := W) w.heap.size hw (.tmp 30) (.tmp 32) 92 96 _ 96 ho Try.underlying92 info96 rfl (show 0 < 12 by decide) (by decide) v xs p [.int .i64 p.f0.f0, .int .i64 p.f0.f1, .int .i64 p.f0.f2, .int .i64 p.f0.f3, .int .i64 p.f1.f0, .int .i64 p.f1.f1, .int .i64 p.f1.f2, .int .i64 p.f2.f0, .int .i64 p.f2.f1, .int .i64 p.f2.f2, .int .i64 p.f3, .int .i64 p.f4] (fun _ => True) (fun _ => False) hs hx (k96_mkM _ _ _ p) (fun _ h => h.elim) (fun _ _ => trivial) HO HB HB.size hl
    (fun v1 w1 h1 h2 h3 _ => h v1 w1 h1 h2 h3)

theorem AllMid.of {w w4 : World} {gi G c : Nat} {xs : List S96} {p : S96} {A : Option Addr} {v : Value} {y0 y1 y2 x0 x1 x2 x3 x4 x5 x6 x7 x8 x9 : Value}
    (hG : w4.heap[G]? = some (.cells #[x0, x1, x2, x3, x4, x5, x6, x7, x8, x9, .int .i64 p.f3, .int .i64 p.f4] 96 (0, 0)))
    (hO : w4.heap[w.heap.size + 1]? = some (.cells #[v] 92 (0, 0))) (hE : w4.heap[w.heap.size + 1 + 1]? = some (.cells #[.int .i64 0] 39 (0, 0)))
    (hI : w4.heap[gi]? = some (.cells #[y0, y1, y2] 23 (0, 0))) (hR : Kd.R k96 96 w4 w.heap.size (fun _ => True) (.slice A (xs.length + 1) c) (xs ++ [p]))
    (hB : Below w.heap.size w w4) (h1 : w.heap.size + 1 + 1 < gi) (h2 : gi < G) :
    AllMid w gi G xs p ((((w4.setCell ⟨w.heap.size + 1, 0, none⟩ (.slice A (xs.length + 1) c)).setCell ⟨gi, 0, none⟩ (.int .i64 p.f2.f0)).setCell ⟨gi, 1, none⟩ (.int .i64 p.f2.f1)).setCell ⟨gi, 2, none⟩ (.int .i64 p.f2.f2)) := by
  have fO : ∀ {W : World} {cs : Array Value} {t : TypeId} {v0 v1 v2 v3 : Value} {g : Nat}, g ≠ w.heap.size + 1 → g ≠ gi → W.heap[g]? = some (.cells cs t (0, 0)) →
      ((((W.setCell ⟨w.heap.size + 1, 0, none⟩ v0).setCell ⟨gi, 0, none⟩ v1).setCell ⟨gi, 1, none⟩ v2).setCell ⟨gi, 2, none⟩ v3).heap[g]? = some (.cells cs t (0, 0)) :=
    fun n1 n2 h => blk_far (blk_far (blk_far (blk_far h (p := ⟨_, 0, none⟩) n1 _) (p := ⟨_, 0, none⟩) n2 _) (p := ⟨_, 1, none⟩) n2 _) (p := ⟨_, 2, none⟩) n2 _
  have hGG := fO (v0 := .slice A (xs.length + 1) c) (v1 := .int .i64 p.f2.f0) (v2 := .int .i64 p.f2.f1) (v3 := .int .i64 p.f2.f2) (by omega) (by omega) hG
  have hII := blk_far hI (p := ⟨w.heap.size + 1, 0, none⟩) (by show gi ≠ w.heap.size + 1; omega) (.slice A (xs.length + 1) c)
  refine ⟨A, c, ?_, fO (by omega) (by omega) hE, ?_, (blk_cell hGG 10).trans rfl, (blk_cell hGG 11).trans rfl, ?_, ?_⟩
  · have n : w.heap.size + 1 ≠ gi := by omega
    exact blk_far (blk_far (blk_far (blk_set hO 0 _) (p := ⟨_, 0, none⟩) n _) (p := ⟨_, 1, none⟩) n _) (p := ⟨_, 2, none⟩) n _
  · exact blk_set (blk_set (blk_set hII 0 _) 1 _) 2 _
  · exact Kd.R_set (Kd.R_set (Kd.R_set (Kd.R_set hR hO (by decide) 0 _) hII (by decide) 0 _) (blk_set hII 0 _) (by decide) 1 _) (blk_set (blk_set hII 0 _) 1 _) (by decide) 2 _
  · exact below_set (below_set (below_set (below_set hB (by omega)) (by omega)) (by omega)) (by omega)

theorem R_slice1 {w : World} {B : Nat} {v : Value} {xs : List S96} {p : S96} (h : Kd.R k96 96 w B (fun _ => True) v (xs ++ [p])) : ∃ (A : Option Addr) (c : Nat), v = .slice A (xs.length + 1) c := by
  obtain ⟨A, c, h⟩ := Kd.R_slice h
  exact ⟨A, c, by rw [h, List.length_append]; rfl⟩
theorem wp_calm {P : Program} {c : Code} {a : Act} {w : World} {K : Act → World → Prop} {Q : Exit → Act → World → Prop} (h : c.wp P (Exit.then K (fun _ _ _ => False)) a w) : c.wp P (Exit.then K Q) a w :=
  wp_mono h (fun e a w h => by cases e <;> first | exact h | exact h.elim)

section
variable (a b c : Int) (A : Option Addr) (cp : Nat) (ls : List S63) (w : World)
set_option maxRecDepth 100000 in
set_option maxHeartbeats 4000000 in
theorem all_form (hr : Kd.C k63 w A ls.length ls) (hc : ls.length ≤ cp) (hf : formB a b c ls = false) :
    Calls Try.prog 58 #[.agg #[.int .i64 a, .int .i64 b, .int .i64 c, .slice A ls.length cp]] w (AllPost w [] 12) := by
  have hu26 := Try.underlying26
  have hmf : ∀ (fn : Fn) (first cap : Array Value) (w : World), (Instr.makeFunc fn first cap).run Try.prog w = .ok (.func fn first cap) w := fun _ _ _ _ => rfl
  go_enter_defers Try.func58, Try.ntmps58
  go_wp2_with fail
  refine (descr_Form.calls a b c A cp ls false _ (Kd.C_below hr (by repeat (first | exact Below.refl _ _ | apply below_alloc | apply pw_below_drewN | apply below_drew))) hc (by rw [descr_Form.f, hf])).mono ?_
  rintro e w1 ⟨rfl, hb⟩
  go_wp2_with (go_at_call 69; refine (must_no _ _).mono ?_; rintro e w' ⟨rfl, rfl⟩)
  have hB : Below w.heap.size w w1 := below_then (by repeat (first | exact Below.refl _ _ | apply below_alloc | apply pw_below_drewN | apply below_drew)) (by simp; omega) hb
  exact door_panic (p := w.heap.size + 1) (q := w.heap.size + 1 + 1) rfl rfl (blk_below (blks3 w _ _ _).2.1 hb) (blk_below (blks3 w _ _ _).1 hb) (by omega) hB (by omega) (by omega)
set_option maxRecDepth 100000 in
set_option maxHeartbeats 4000000 in
theorem all_shape (hr : Kd.C k63 w A ls.length ls) (hc : ls.length ≤ cp) (hf : formB a b c ls = true) (hs : shR a b c = false) :
    Calls Try.prog 58 #[.agg #[.int .i64 a, .int .i64 b, .int .i64 c, .slice A ls.length cp]] w (AllPost w [] 1) := by
  have hu26 := Try.underlying26
  have hu23 := Try.underlying23
  have hmf : ∀ (fn : Fn) (first cap : Array Value) (w : World), (Instr.makeFunc fn first cap).run Try.prog w = .ok (.func fn first cap) w := fun _ _ _ _ => rfl
  go_enter_defers Try.func58, Try.ntmps58
  go_wp2_with fail
  refine (descr_Form.calls a b c A cp ls true _ (Kd.C_below hr (by repeat (first | exact Below.refl _ _ | apply below_alloc | apply pw_below_drewN | apply below_drew))) hc (by rw [descr_Form.f, hf])).mono ?_
  rintro e w1 ⟨rfl, hb⟩
  have hB : Below w.heap.size w w1 := below_then (by repeat (first | exact Below.refl _ _ | apply below_alloc | apply pw_below_drewN | apply below_drew)) (by simp; omega) hb
  have h0 := blk_below (blks3 w _ _ _).2.2 hb
  have h1 := Aside0.mk (blk_below (blks3 w _ _ _).2.1 hb)
  have h2 := Aside0.mk (blk_below (blks3 w _ _ _).1 hb)
  obtain ⟨c0, c1, c2, c3⟩ := cells4 h0
  clear h0 hb
  go_wp2_with (go_at_call 69; refine (must_yes _ _).mono ?_; rintro e w' ⟨rfl, rfl⟩)
  refine (shape_Right.calls a b c false _ (by rw [right_eq, hs])).mono ?_
  rintro e w2 ⟨rfl, hb⟩
  go_wp2_with (go_at_call 69; refine (must_no _ _).mono ?_; rintro e w' ⟨rfl, rfl⟩)
  exact door_panic (p := w.heap.size + 1) (q := w.heap.size + 1 + 1) rfl rfl (blk_below h1.out hb) (blk_below h2.out hb) (by omega) (below_then hB hB.size hb) (by omega) (by omega)
end
section
variable (a b c : Int) (A : Option Addr) (cp : Nat) (ls : List S63) (w : World)
set_option maxRecDepth 100000 in
set_option maxHeartbeats 8000000 in
theorem all_loop (hr : Kd.C k63 w A ls.length ls) (hc : ls.length ≤ cp) (hf : formB a b c ls = true) (hs : shR a b c = true) :
    Calls Try.prog 58 #[.agg #[.int .i64 a, .int .i64 b, .int .i64 c, .slice A ls.length cp]] w (AllPost w (allS a b c ls).1 (allS a b c ls).2) := by
  have hu26 := Try.underlying26
  have hu23 := Try.underlying23
  have hu63 := Try.underlying63
  have hu96 := Try.underlying96
  have hl8 : ls.length ≤ 8 := by simp [formB] at hf; omega
  have hmf : ∀ (fn : Fn) (first cap : Array Value) (w : World), (Instr.makeFunc fn first cap).run Try.prog w = .ok (.func fn first cap) w := fun _ _ _ _ => rfl
  have HR := Aside0.mk hr
  have HF := Aside0.mk hf
  have HS := Aside0.mk hs
  go_enter_defers Try.func58, Try.ntmps58
  go_wp2_with fail
  refine (descr_Form.calls a b c A cp ls true _ (Kd.C_below hr (by repeat (first | exact Below.refl _ _ | apply below_alloc | apply pw_below_drewN | apply below_drew))) hc (by rw [descr_Form.f, hf])).mono ?_
  clear hr hf hs
  rintro e w1 ⟨rfl, hb⟩
  have hB : Below w.heap.size w w1 := below_then (by repeat (first | exact Below.refl _ _ | apply below_alloc | apply pw_below_drewN | apply below_drew)) (by simp; omega) hb
  have h0 := Aside0.mk (blk_below (blks3 w _ _ _).2.2 hb)
  have h1 := Aside0.mk (blk_below (blks3 w _ _ _).2.1 hb)
  have h2 := Aside0.mk (blk_below (blks3 w _ _ _).1 hb)
  clear hb
  obtain ⟨c0, c1, c2, c3⟩ := cells4 h0.out
  go_wp2_with (go_at_call 69; refine (must_yes _ _).mono ?_; rintro e w' ⟨rfl, rfl⟩)
  refine (shape_Right.calls a b c true _ (by rw [right_eq, HS.out])).mono ?_
  rintro e w2 ⟨rfl, hb⟩
  have hB2 : Below w.heap.size w w2 := below_then hB hB.size hb
  have g0 := blk_below h0.out hb
  have g1 := Aside0.mk (blk_below h1.out hb)
  have g2 := Aside0.mk (blk_below h2.out hb)
  clear hb h0 h1 h2 hB c0 c1 c2 c3
  obtain ⟨c0, c1, c2, c3⟩ := cells4 g0
  clear g0
  have hnl : w.heap.size < w2.heap.size := by have := blk_lt g2.out; omega
  have hnw : ¬ w.heap.size = w2.heap.size := by omega
  go_wp2_with (go_at_call 69; refine (must_yes _ _).mono ?_; rintro e w' ⟨rfl, rfl⟩)
  obtain ⟨gi, hgi⟩ : ∃ gi, w2.heap.size = gi := ⟨_, rfl⟩
  have hgib : w.heap.size + 1 + 1 < gi := by have := blk_lt g2.out; omega
  simp only [hgi]
  go_loopg [4, 5, 23] ls.length (fun gk s4 s5 i wr => ∃ k : Nat, k + gk = ls.length ∧ i = .int .i64 k ∧ AllRel ⟨a, b, c⟩ ls w gi k s4 s5 wr)
  case atStart => 
    refine ⟨0, by omega, rfl, AllRel.start ?_ ?_ ?_ (below_alloc hB2 _)⟩
    · exact blk_alloc g1.out _
    · exact blk_alloc g2.out _
    · rw [← hgi]; exact heap_alloc_new _ _
  case round =>
    clear c0 c1 c2 c3 g1 g2 hB2
    obtain ⟨k, hk, rfl, A1, c1, xs, s, hst, rfl, rfl, h1, h2, h3, hR, hB⟩ := hrel
    have HST := Aside0.mk hst
    have H1 := Aside0.mk h1
    have H2 := Aside0.mk h2
    have H3 := Aside0.mk h3
    have HRR := Aside0.mk hR
    clear hst h1 h2 h3 hR hnw hnl
    by_cases hlt : k < ls.length
    · have hltI : (k : Int) < (ls.length : Int) := by omega
      obtain ⟨ad, rfl, hd0, hd1, hd2, hd3⟩ := at_T63 (Kd.C_below HR.out hB) (k : Int) (by omega) hltI
      simp only [Int.toNat_natCast] at hd0 hd1 hd2 hd3
      generalize hx : rd_T63 ls (k : Int) = x at hd0 hd1 hd2 hd3
      have HX := Aside0.mk hx
      clear hx
      have hfx : Aside0 (formL x = true) := ⟨formL_at HF.out hlt HX⟩
      obtain ⟨⟨s0, s1, s2⟩, _, _, _⟩ := cells3 H3.out
      have hgl := blk_lt H3.out
      have hgn : ¬ gi = wr.heap.size := by omega
      go_wp2_with fail
      have hsR : shR s.f0 s.f1 s.f2 = true := stepsTo_shR (r := (xs, s)) HS.out HST.out
      refine (next_calls s x _ hsR hfx.out).mono ?_
      clear hsR s0 s1 s2 hd0 hd1 hd2 hd3
      rintro e w3 ⟨hif, hb0⟩
      have hb := mono_alloc_of hb0
      have HB3 : Below w.heap.size w w3 := below_then hB hB.size hb
      have H1' := Aside0.mk (blk_below H1.out hb)
      have H2' := Aside0.mk (blk_below H2.out hb)
      have H3' := Aside0.mk (blk_below H3.out hb)
      have HR' := Aside0.mk (Kd.R_below HRR.out hb)
      have hgl3 := blk_lt H3'.out
      clear hb0 hb H1 H2 H3 HRR hB hgn hgl
      by_cases hi : nextIs s x = true
      · rw [if_pos hi] at hif
        subst hif
        have HI := Aside0.mk hi
        clear hi
        generalize hp : nextS s x = p
        have HP := Aside0.mk hp
        clear hp
        unfold stepV
        go_upto_region 10 with fail
        go_cut [23] from 23 to 44 (fun s23 wx => s23 = .int .i64 k ∧ AllMid w gi w3.heap.size xs p wx)
        case first =>
          have hG0 := heap_alloc_new w3 (.cells #[.int .i64 p.f0.f0, .int .i64 p.f0.f1, .int .i64 p.f0.f2, .int .i64 p.f0.f3, .int .i64 p.f1.f0, .int .i64 p.f1.f1, .int .i64 p.f1.f2, .int .i64 p.f2.f0, .int .i64 p.f2.f1, .int .i64 p.f2.f2, .int .i64 p.f3, .int .i64 p.f4] 96)
          have hO0 := blk_alloc H1'.out (.cells #[.int .i64 p.f0.f0, .int .i64 p.f0.f1, .int .i64 p.f0.f2, .int .i64 p.f0.f3, .int .i64 p.f1.f0, .int .i64 p.f1.f1, .int .i64 p.f1.f2, .int .i64 p.f2.f0, .int .i64 p.f2.f1, .int .i64 p.f2.f2, .int .i64 p.f3, .int .i64 p.f4] 96)
          have hE0 := blk_alloc H2'.out (.cells #[.int .i64 p.f0.f0, .int .i64 p.f0.f1, .int .i64 p.f0.f2, .int .i64 p.f0.f3, .int .i64 p.f1.f0, .int .i64 p.f1.f1, .int .i64 p.f1.f2, .int .i64 p.f2.f0, .int .i64 p.f2.f1, .int .i64 p.f2.f2, .int .i64 p.f3, .int .i64 p.f4] 96)
          have hI0 := blk_alloc H3'.out (.cells #[.int .i64 p.f0.f0, .int .i64 p.f0.f1, .int .i64 p.f0.f2, .int .i64 p.f0.f3, .int .i64 p.f1.f0, .int .i64 p.f1.f1, .int .i64 p.f1.f2, .int .i64 p.f2.f0, .int .i64 p.f2.f1, .int .i64 p.f2.f2, .int .i64 p.f3, .int .i64 p.f4] 96)
          have hR0 := Kd.R_below HR'.out (below_alloc (Below.refl _ _) (.cells #[.int .i64 p.f0.f0, .int .i64 p.f0.f1, .int .i64 p.f0.f2, .int .i64 p.f0.f3, .int .i64 p.f1.f0, .int .i64 p.f1.f1, .int .i64 p.f1.f2, .int .i64 p.f2.f0, .int .i64 p.f2.f1, .int .i64 p.f2.f2, .int .i64 p.f3, .int .i64 p.f4] 96))
          have hBW := below_alloc HB3 (.cells #[.int .i64 p.f0.f0, .int .i64 p.f0.f1, .int .i64 p.f0.f2, .int .i64 p.f0.f3, .int .i64 p.f1.f0, .int .i64 p.f1.f1, .int .i64 p.f1.f2, .int .i64 p.f2.f0, .int .i64 p.f2.f1, .int .i64 p.f2.f2, .int .i64 p.f3, .int .i64 p.f4] 96)
          have hGv : w3.heap.size < (w3.alloc (.cells #[.int .i64 p.f0.f0, .int .i64 p.f0.f1, .int .i64 p.f0.f2, .int .i64 p.f0.f3, .int .i64 p.f1.f0, .int .i64 p.f1.f1, .int .i64 p.f1.f2, .int .i64 p.f2.f0, .int .i64 p.f2.f1, .int .i64 p.f2.f2, .int .i64 p.f3, .int .i64 p.f4] 96)).heap.size := by simp
          generalize w3.alloc (.cells #[.int .i64 p.f0.f0, .int .i64 p.f0.f1, .int .i64 p.f0.f2, .int .i64 p.f0.f3, .int .i64 p.f1.f0, .int .i64 p.f1.f1, .int .i64 p.f1.f2, .int .i64 p.f2.f0, .int .i64 p.f2.f1, .int .i64 p.f2.f2, .int .i64 p.f3, .int .i64 p.f4] 96) = W at hG0 hO0 hE0 hI0 hR0 hBW hGv ⊢
          have hown : some w3.heap.size ≠ (Value.slice A1 xs.length c1).ownBlock := by
            intro e
            obtain ⟨inner, ho⟩ := Kd.R_own HR'.out
            have := own_lt ho _ e.symm
            omega
          have hneO := Kd.R_ne hR0 hO0 (by decide)
          have hneE := Kd.R_ne hR0 hE0 (by decide)
          have hneI := Kd.R_ne hR0 hI0 (by decide)
          obtain ⟨G0, G1, G2, G3, G4, G5, G6, G7, G8, G9, G10, G11⟩ := cells12 hG0
          have O0 := (blk_cell hO0 0).trans rfl
          have hlen : xs.length = k := by have := stepsTo_length HST.out; rw [List.length_take] at this; simp at this; omega
          have HG0 := Aside0.mk hG0
          have HO0 := Aside0.mk hO0
          have HE0 := Aside0.mk hE0
          have HI0 := Aside0.mk hI0
          have HR0 := Aside0.mk hR0
          have HLEN := Aside0.mk hlen
          have n1 : w.heap.size + 1 < W.heap.size := blk_lt hO0
          have n2 : ¬ w.heap.size + 1 = W.heap.size := by omega
          have n3 : ¬ w3.heap.size = W.heap.size := by omega
          clear hG0 hO0 hE0 hI0 hR0 hlen
          refine wp_calm ?_
          go_region_law (refine append96 (w := w) (W := W.drew) (xs := xs) (p := p) (v := .slice A1 xs.length c1) ?_ ?_ ?_ ?_ HR0.out (below_drew hBW) ?_ ?_; rfl; rfl; rfl; rfl; (rw [HLEN.out]; omega); intro v1 w4 HO1 hB4 hg5; obtain ⟨A2, c2, rfl⟩ := R_slice1 HO1; have hg4 : W.grownBy w4 (Value.slice A1 xs.length c1).ownBlock := ⟨hg5.os, hg5.tape, hg5.output, hg5.size, hg5.block⟩; clear hg5; have hG4 := blk_grown HG0.out hg4 hown; have hO4 := blk_grown HO0.out hg4 hneO; have hE4 := blk_grown HE0.out hg4 hneE; have hI4 := blk_grown HI0.out hg4 hneI; have O4 := (blk_cell hO4 0).trans rfl; have F4 := blk_frozen hO4 0; obtain ⟨⟨I40, I41, I42⟩, J0, J1, J2⟩ := cells3 hI4; obtain ⟨_, _, _, _, _, _, _, K7, K8, K9, _, _⟩ := cells12 hG4)
          all_goals (go_wp2_with fail)
          all_goals (go_meet; with_reducible exact ⟨rfl, AllMid.of hG4 hO4 hE4 hI4 HO1 hB4 hgib hgl3⟩)
        case rest =>
          obtain ⟨rfl, A2, c2, h1, h2, h3, g10, g11, hR2, hB5⟩ := hcut
          have hXS := stepsTo_next HST.out hlt HX HI.out HP.out
          clear H1' H2' H3' HR' HB3 HST HI
          go_wp2_with fail
          go_roundg (ls.length - k - 1)
          case measure => omega
          case rel =>
            refine ⟨k + 1, by omega, rfl, A2, c2, xs ++ [p], p.f2, hXS, ?_, ?_, ?_, h2, h3, ?_, hB5⟩
            · rw [sumW_snoc]
            · rw [sumP_snoc]
            · simpa using h1
            · simpa using hR2
      · rw [if_neg hi] at hif
        subst hif
        have HN : Aside0 (allS a b c ls = ([], 21)) := ⟨allS_bad HF.out HS.out HST.out hlt HX (Bool.eq_false_iff.mpr hi)⟩
        show bodyPostD _ _ _ _ _ _
        rw [HN.out]
        exact door_panic (p := w.heap.size + 1) (q := w.heap.size + 1 + 1) rfl rfl H1'.out H2'.out (by omega) HB3 (by omega) (by omega)
    · have hkl : k = ls.length := by omega
      have hXS : Aside0 (stepsTo ⟨a, b, c⟩ ls = some (xs, s)) := ⟨by rw [← HST.out, hkl, List.take_length]⟩
      have hltI : ¬ (k : Int) < (ls.length : Int) := by omega
      have hFS := Aside0.mk (And.intro HF.out HS.out)
      by_cases hW : sumW xs ≤ 512
      · by_cases hP : sumP xs ≤ 512
        · have HV : Aside0 (allS a b c ls = (xs, 0)) := ⟨allS_fit hFS.out hXS.out hW hP⟩
          have C1 : wr.cell? ⟨w.heap.size + 1, 0, none⟩ = some (.slice A1 xs.length c1) := (blk_cell H1.out 0).trans rfl
          have C2 : wr.cell? ⟨w.heap.size + 1 + 1, 0, none⟩ = some (.int .i64 0) := (blk_cell H2.out 0).trans rfl
          have F1 := blk_frozen H1.out 0
          have F2 := blk_frozen H2.out 0
          go_wp2_with (go_at_call 69; refine (must_yes _ _).mono ?_; rintro e w' ⟨rfl, rfl⟩)
          show bodyPostD _ _ _ _ _ _
          rw [HV.out]
          have n1 : w.heap.size + 1 ≠ w.heap.size + 1 + 1 := by omega
          have D1 := blk_far (blk_set H1.out 0 (.slice A1 xs.length c1)) (p := ⟨w.heap.size + 1 + 1, 0, none⟩) n1 (.int .i64 0)
          have D2 := blk_set (blk_far H2.out (p := ⟨w.heap.size + 1, 0, none⟩) n1.symm (.slice A1 xs.length c1)) 0 (.int .i64 0)
          exact door_ret (p := w.heap.size + 1) (q := w.heap.size + 1 + 1) rfl rfl D1 D2 (below_set (below_set hB (by omega)) (by omega)) (Kd.R_set (Kd.R_set HRR.out H1.out (by decide) 0 _) (blk_far H2.out (p := ⟨w.heap.size + 1, 0, none⟩) n1.symm _) (by decide) 0 _)
        · have HV : Aside0 (allS a b c ls = ([], 5)) := ⟨allS_big hFS.out hXS.out (fun h => hP h.2)⟩
          go_wp2_with (go_at_call 69; refine (must_no _ _).mono ?_; rintro e w' ⟨rfl, rfl⟩)
          show bodyPostD _ _ _ _ _ _
          rw [HV.out]
          exact door_panic (p := w.heap.size + 1) (q := w.heap.size + 1 + 1) rfl rfl H1.out H2.out (by omega) hB (by omega) (by omega)
      · have HV : Aside0 (allS a b c ls = ([], 5)) := ⟨allS_big hFS.out hXS.out (fun h => hW h.1)⟩
        go_wp2_with (go_at_call 69; refine (must_no _ _).mono ?_; rintro e w' ⟨rfl, rfl⟩)
        show bodyPostD _ _ _ _ _ _
        rw [HV.out]
        exact door_panic (p := w.heap.size + 1) (q := w.heap.size + 1 + 1) rfl rfl H1.out H2.out (by omega) hB (by omega) (by omega)
end
/-- check.all by its pure reading. -/
theorem check_all.calls (a0_0 a0_1 a0_2 : Int) (A0_3 : Option Addr) (c0_3 : Nat) (l0_3 : List (S63)) (r1 : List (S96)) (r2 : Int) (w : World) (hr0_3 : Kd.C k63 w A0_3 l0_3.length l0_3) (hc0_3 : l0_3.length ≤ c0_3) (h : check_all.f a0_0 a0_1 a0_2 l0_3 = some (r1, r2)) :
    Calls Try.prog 58 #[.agg #[.int .i64 a0_0, .int .i64 a0_1, .int .i64 a0_2, .slice A0_3 l0_3.length c0_3]] w fun e w' => ∃ v0_ : Value, e = .returned (.tuple #[v0_, .int .i64 r2]) ∧ Kd.R k96 96 w' w.heap.size (fun _ => True) v0_ r1 ∧ Below w.heap.size w w' := by
  have h2 : allS a0_0 a0_1 a0_2 l0_3 = (r1, r2) := Option.some.inj h
  by_cases hf : formB a0_0 a0_1 a0_2 l0_3 = true
  · by_cases hs : shR a0_0 a0_1 a0_2 = true
    · have h3 := all_loop a0_0 a0_1 a0_2 A0_3 c0_3 l0_3 w hr0_3 hc0_3 hf hs
      rw [h2] at h3
      exact h3
    · have h3 := all_shape a0_0 a0_1 a0_2 A0_3 c0_3 l0_3 w hr0_3 hc0_3 hf (Bool.eq_false_iff.mpr hs)
      have h4 : allS a0_0 a0_1 a0_2 l0_3 = ([], 1) := by simp only [allS, if_pos hf, if_neg hs]
      rw [h2] at h4; cases h4
      exact h3
  · have h3 := all_form a0_0 a0_1 a0_2 A0_3 c0_3 l0_3 w hr0_3 hc0_3 (Bool.eq_false_iff.mpr hf)
    have h4 : allS a0_0 a0_1 a0_2 l0_3 = ([], 12) := by simp only [allS, if_neg hf]
    rw [h2] at h4; cases h4
    exact h3
end Go.Proofs.Ytjegihodmidhoaa.G
namespace Go.Proofs.Ytjegihodmidhoaa.G
open Go.RowKit Go.Proofs.YtjegihodmidhoaaW.PrintWords Go.Proofs.YtjegihodmidhoaaW.PrintLast Go.Proofs.YtjegihodmidhoaaW.PrintMore
attribute [local go_sem] max2_int min2_int max_two min_two max_three min_three max_four min_four   -- for this text's walks alone
set_option linter.unusedVariables false
set_option linter.unusedSimpArgs false

/-! ### check_Shapes: function 39 -/
def check_Shapes.l0 : Nat → List (S23) → List (S96) → Int → Int → Option ((List (S23)) × Int)
  | 0, _, _, _, _ => none
  | k + 1, x6, x20, x21, x22 => if x22 < x21 then (if 0 ≤ x22 then (if x22 < (x20.length : Int) then (if x6.length < 5864062014805 then (check_Shapes.l0 k (x6 ++ [(⟨(rd_T96 x20 x22).f2.f0, (rd_T96 x20 x22).f2.f1, (rd_T96 x20 x22).f2.f2⟩ : S23)]) x20 x21 (wrap64 (x22 + 1))) else (none)) else (none)) else (none)) else (some (x6, 0))
def check_Shapes.f (k : Nat) (a0_0 : Int) (a0_1 : Int) (a0_2 : Int) (l0_3 : List (S63)) : Option ((List (S23)) × Int) := (check_all.f a0_0 a0_1 a0_2 l0_3).bind fun bt129 => (if bt129.2 = 0 then (check_Shapes.l0 k (([(⟨a0_0, a0_1, a0_2⟩ : S23)] : List (S23))) bt129.1 (bt129.1.length : Int) 0) else (some (([] : List (S23)), bt129.2)))
theorem check_Shapes.mono_l : ∀ k, (∀ y0 y1 y2 y3, LeO (check_Shapes.l0 k y0 y1 y2 y3) (check_Shapes.l0 (k + 1) y0 y1 y2 y3))
  | 0 => fun _ _ _ _ r h => by simp [check_Shapes.l0] at h
  | k + 1 => by
    have ih0 := check_Shapes.mono_l k
    · intro y0 y1 y2 y3
      unfold check_Shapes.l0
      repeat' first
      | (with_reducible exact ih0 _ _ _ _)
      | (with_reducible exact LeO.refl _)
      | (with_reducible exact LeO.none _)
      | (with_reducible refine LeO.ite ?_ ?_)
      | (with_reducible refine LeO.bind ?_ (fun _ => ?_))
      | exact ih0 _ _ _ _
      | exact LeO.none _
      | refine LeO.ite ?_ ?_
      | refine LeO.bind ?_ (fun _ => ?_)
theorem check_Shapes.mono : ∀ a0 a1 a2 a3 k, LeO (check_Shapes.f k a0 a1 a2 a3) (check_Shapes.f (k + 1) a0 a1 a2 a3) := by
  intro a0 a1 a2 a3 k
  have ih0 := check_Shapes.mono_l k
  unfold check_Shapes.f
  repeat' first
      | (with_reducible exact ih0 _ _ _ _)
      | (with_reducible exact LeO.refl _)
      | (with_reducible exact LeO.none _)
      | (with_reducible refine LeO.ite ?_ ?_)
      | (with_reducible refine LeO.bind ?_ (fun _ => ?_))
      | exact ih0 _ _ _ _
      | exact LeO.none _
      | refine LeO.ite ?_ ?_
      | refine LeO.bind ?_ (fun _ => ?_)
set_option maxHeartbeats 8000000 in
set_option maxRecDepth 100000 in
theorem check_Shapes.calls (k : Nat) (a0_0 : Int) (a0_1 : Int) (a0_2 : Int) (A0_3 : Option Addr) (c0_3 : Nat) (l0_3 : List (S63)) (r1 : List (S23)) (r2 : Int) (w : World) (hr0_3 : Kd.C k63 w A0_3 l0_3.length l0_3) (hc0_3 : l0_3.length ≤ c0_3) (h : check_Shapes.f k a0_0 a0_1 a0_2 l0_3 = some (r1, r2)) :
    Calls Try.prog 39 #[.agg #[.int .i64 a0_0, .int .i64 a0_1, .int .i64 a0_2, .slice A0_3 l0_3.length c0_3]] w fun e w' => ∃ v0_ : Value, e = .returned (.tuple #[v0_, .int .i64 r2]) ∧ Kd.R k23 23 w' w.heap.size (fun _ => True) v0_ r1 ∧ Below w.heap.size w w' := by
  have hu26 := Try.underlying26
  have hu23 := Try.underlying23
  have hu96 := Try.underlying96
  have HR0_3 := Aside0.mk hr0_3
  have HC0_3 := Aside0.mk hc0_3
  clear hr0_3 hc0_3
  have HB := Aside0.mk (Below.refl w.heap.size w)
  have H : ((check_all.f a0_0 a0_1 a0_2 l0_3).bind fun bt129 => (if bt129.2 = 0 then (check_Shapes.l0 k (([(⟨a0_0, a0_1, a0_2⟩ : S23)] : List (S23))) bt129.1 (bt129.1.length : Int) 0) else (some (([] : List (S23)), bt129.2)))) = some (r1, r2) := h
  clear h
  replace H := Option.bind_eq_some_iff.mp H
  obtain ⟨⟨t129, t132⟩, A20, H⟩ := H
  replace H : (if t132 = 0 then (check_Shapes.l0 k (([(⟨a0_0, a0_1, a0_2⟩ : S23)] : List (S23))) t129 (t129.length : Int) 0) else (some (([] : List (S23)), t132))) = some (r1, r2) := H
  have A2 := Aside0.mk A20
  clear A20
  by_cases c3 : t132 = 0
  · rw [if_pos c3] at H
    have c3b0 : (t132 == 0) = true := beq_iff_eq.mpr c3
    have c3b1 : (t132 != 0) = false := bne_eq_false_iff_eq.mpr c3
    clear c3
    obtain ⟨y133, hy133⟩ : ∃ y_ : List (S23), y_ = (([(⟨a0_0, a0_1, a0_2⟩ : S23)] : List (S23))) := ⟨_, rfl⟩
    replace H : (check_Shapes.l0 k y133 t129 (t129.length : Int) 0) = some (r1, r2) := by first | (rw [hy133]; with_reducible exact H) | (have H2_ := (Option.bind_some _ _).symm.trans H; rw [hy133]; with_reducible exact H2_) | (have H2_ := (Option.bind_some _ _).symm.trans H; with_reducible exact H2_) | with_reducible exact H | (rw [hy133]; exact H) | exact H
    have Ny133 := Aside0.mk hy133
    clear hy133
    have H' := Aside0.mk H
    clear H
    go_enter Try.func39, Try.ntmps39
    go_wp2_with (first | ((with_reducible refine gate_dst (N := 1) rfl ?_); refine box_event ?hg (N := 1) ?hd (cs := #[.int .i64 a0_0, .int .i64 a0_1, .int .i64 a0_2, .slice A0_3 l0_3.length c0_3]) (t := 26) ?hr ?_; (case hd => rfl); (case hg => rfl); (case hr => first | (go_simp; done) | (go_simp; rfl)); intro gb128 hg w4 hbox hb; have n0_ := Aside0.mk (below_step (by repeat (first | (with_reducible first | exact HB.out | apply below_alloc | apply pw_below_drewN | apply below_drew1) | exact HB.out)) hb); have n1_ := Aside0.mk (hbox); have n2_ := Aside0.mk ((by rw [hg]; exact (below_size (by repeat (first | (with_reducible first | exact HB.out | apply below_alloc | apply pw_below_drewN | apply below_drew1) | exact HB.out))) : w.heap.size ≤ gb128)); have n3_ := Aside0.mk ((by rw [hg]; exact (below_size (by repeat (first | (with_reducible first | exact HB.out | apply below_alloc | apply pw_below_drewN | apply below_drew1) | exact HB.out))) : w.heap.size ≤ gb128)); clear HB; have HB := n0_; have BK128 := n1_; have GW128 := n2_; have GE128 := n3_; clear n0_ n1_ n2_ n3_; clear hb hbox hg; have hcz5_0 : w4.cell? ⟨gb128, 0, none⟩ = some (.int .i64 a0_0) := (blk_cell BK128.out 0).trans rfl; have hcz5_1 : w4.cell? ⟨gb128, 1, none⟩ = some (.int .i64 a0_1) := (blk_cell BK128.out 1).trans rfl; have hcz5_2 : w4.cell? ⟨gb128, 2, none⟩ = some (.int .i64 a0_2) := (blk_cell BK128.out 2).trans rfl; have hcz5_3 : w4.cell? ⟨gb128, 3, none⟩ = some (.slice A0_3 l0_3.length c0_3) := (blk_cell BK128.out 3).trans rfl; have hfz5_0 := blk_frozen BK128.out 0; have hfz5_1 := blk_frozen BK128.out 1; have hfz5_2 := blk_frozen BK128.out 2; have hfz5_3 := blk_frozen BK128.out 3) | ((with_reducible refine gate_callee (f := 58) rfl ?_); refine goesL_ (some 11) rfl rfl Try.func58 (by kernel_rfl) rfl #[.agg #[.int .i64 a0_0, .int .i64 a0_1, .int .i64 a0_2, .slice A0_3 l0_3.length c0_3]] rfl (by (try simp only [List.map_toArray, List.map_cons, List.map_nil]); first | done | rfl | (simp only [List.length_drop, List.length_take]; rfl)) ?_; (with_reducible refine (check_all.calls a0_0 a0_1 a0_2 _ _ l0_3 t129 t132 _ ?side1 ?side2 A2.out).mono ?_); (case side1 => repeat (first | exact (Kd.C_below HR0_3.out HB.out) | (with_reducible refine Kd.C_alloc ?_ _) | (with_reducible refine Kd.C_drewN ?_ _) | (with_reducible refine Kd.C_drew ?_))); (case side2 => exact HC0_3.out); rintro e w6 ⟨v130, rfl, ho0, hb⟩; refine ⟨_, rfl, ?_⟩; have n0_ := Aside0.mk (Kd.R_lower ho0 (below_size (by repeat (first | (with_reducible first | exact HB.out | apply below_alloc | apply pw_below_drewN | apply below_drew1 | refine below_set ?_ GE128.out) | exact HB.out)))); have n1_ := Aside0.mk (blk_below (g := gb128) (o := .cells #[.int .i64 a0_0, .int .i64 a0_1, .int .i64 a0_2, .slice A0_3 l0_3.length c0_3] 26 (0, 0)) (by (with_reducible repeat (first | refine blk_drewN ?_ _ | refine blk_drew ?_ | refine blk_alloc ?_ _)); exact BK128.out) hb); have n2_ := Aside0.mk (below_step (by repeat (first | (with_reducible first | exact HB.out | apply below_alloc | apply pw_below_drewN | apply below_drew1 | refine below_set ?_ GE128.out) | exact HB.out)) hb); clear BK128; clear HB; have HO131 := n0_; have BK128 := n1_; have HB := n2_; clear n0_ n1_ n2_; (try clear hb); (try clear hb2); (try clear hk); (try clear hi); (try clear ho0); have hcz7_0 : w6.cell? ⟨gb128, 0, none⟩ = some (.int .i64 a0_0) := (blk_cell BK128.out 0).trans rfl; have hcz7_1 : w6.cell? ⟨gb128, 1, none⟩ = some (.int .i64 a0_1) := (blk_cell BK128.out 1).trans rfl; have hcz7_2 : w6.cell? ⟨gb128, 2, none⟩ = some (.int .i64 a0_2) := (blk_cell BK128.out 2).trans rfl; have hcz7_3 : w6.cell? ⟨gb128, 3, none⟩ = some (.slice A0_3 l0_3.length c0_3) := (blk_cell BK128.out 3).trans rfl; have hfz7_0 := blk_frozen BK128.out 0; have hfz7_1 := blk_frozen BK128.out 1; have hfz7_2 := blk_frozen BK128.out 2; have hfz7_3 := blk_frozen BK128.out 3) | ((with_reducible refine gate_dst (N := 19) rfl ?_); refine Kd.R_lit k23 _ 23 ?hg (N := 19) ?hd (xs := ([(⟨a0_0, a0_1, a0_2⟩ : S23)] : List (S23))) (inner := [.int .i64 a0_0, .int .i64 a0_1, .int .i64 a0_2]) (ok := fun _ => True) (okp := fun _ => True) ?hr ?hp (fun _ hk => hk) trivial (Below.refl _ _) (Nat.le_refl _) (by simp) ?_; (case hd => rfl); (case hg => rfl); (case hr => first | (go_simp; done) | (go_simp; rfl)); (case hp => exact (Reps.c3 (show Kd.M k23 _ _ _ (⟨a0_0, a0_1, a0_2⟩ : S23) [.int .i64 a0_0, .int .i64 a0_1, .int .i64 a0_2] from (k23_mkM _ _ _ (⟨a0_0, a0_1, a0_2⟩ : S23) )) (Reps.none _ _))); intro v134 w8 ho9 hb hg_ hnew_; clear hg_ hnew_; (first | rw [← Ny133.out] at ho9 | (simp only [Int.reduceToNat] at ho9; rw [← Ny133.out] at ho9)); have n0_ := Aside0.mk (Kd.R_below (by (with_reducible repeat (first | apply Kd.R_alloc | apply Kd.R_drewN | apply Kd.R_drew)); exact HO131.out) hb); have n1_ := Aside0.mk (Kd.R_lower ho9 (below_size (by repeat (first | (with_reducible first | exact HB.out | apply below_alloc | apply pw_below_drewN | apply below_drew1 | refine below_set ?_ GE128.out) | exact HB.out)))); have n2_ := Aside0.mk (blk_below (g := gb128) (o := .cells #[.int .i64 a0_0, .int .i64 a0_1, .int .i64 a0_2, .slice A0_3 l0_3.length c0_3] 26 (0, 0)) (by (with_reducible repeat (first | refine blk_drewN ?_ _ | refine blk_drew ?_ | refine blk_alloc ?_ _)); exact BK128.out) hb); have n3_ := Aside0.mk (below_step (by repeat (first | (with_reducible first | exact HB.out | apply below_alloc | apply pw_below_drewN | apply below_drew1 | refine below_set ?_ GE128.out) | exact HB.out)) hb); clear HO131; clear BK128; clear HB; have HO131 := n0_; have HO135 := n1_; have BK128 := n2_; have HB := n3_; clear n0_ n1_ n2_ n3_; clear hb ho9; obtain ⟨Ao10, co10, eo10⟩ := Kd.R_slice HO131.out; subst eo10))
    go_loopg [6, 22] k (fun kq v6 v22 w' => ∃ (x6_1 : List (S23)) (x22_1 : Int), v22 = .int .i64 x22_1 ∧ Aside0 (check_Shapes.l0 kq x6_1 t129 (t129.length : Int) x22_1 = some (r1, r2)) ∧ Aside0 (kq ≤ k) ∧ Aside0 (Kd.R k23 23 w' w.heap.size (fun _ => True) v6 x6_1) ∧ Aside0 (Kd.R k96 96 w' w.heap.size (fun _ => True) (.slice Ao10 t129.length co10) t129) ∧ Aside0 (w'.heap[gb128]? = some (.cells #[.int .i64 a0_0, .int .i64 a0_1, .int .i64 a0_2, (.slice A0_3 l0_3.length c0_3)] 26 (0, 0))) ∧ Aside0 (Below w.heap.size w w'))
    case atStart => exact ⟨(y133), (0), (by first | rfl | (simp; done) | (simp [*]; done)), H', ⟨Nat.le_refl _⟩, ⟨by (with_reducible repeat (first | apply Kd.R_alloc | apply Kd.R_drewN | apply Kd.R_drew)); exact HO135.out⟩, ⟨by (with_reducible repeat (first | apply Kd.R_alloc | apply Kd.R_drewN | apply Kd.R_drew)); exact HO131.out⟩, ⟨by (with_reducible repeat (first | refine blk_drewN ?_ _ | refine blk_drew ?_ | refine blk_alloc ?_ _)); exact BK128.out⟩, ⟨by repeat (first | (with_reducible first | exact HB.out | apply below_alloc | apply pw_below_drewN | apply below_drew1 | refine below_set ?_ GE128.out) | exact HB.out)⟩⟩
    case round =>
      clear H'
      try clear p2
      try clear c3
      try clear c3b0
      try clear c3b1
      try clear c5
      try clear hcz5_0
      try clear hcz5_1
      try clear hcz5_2
      try clear hcz5_3
      try clear hcz7_0
      try clear hcz7_1
      try clear hcz7_2
      try clear hcz7_3
      try clear hfz5_0
      try clear hfz5_1
      try clear hfz5_2
      try clear hfz5_3
      try clear hfz7_0
      try clear hfz7_1
      try clear hfz7_2
      try clear hfz7_3
      obtain ⟨x6_1, x22_1, rfl, HA, HK1, HO_6, HO_20, BK128, HB⟩ := hrel
      cases gk with
      | zero => exact absurd HA.out (by simp [check_Shapes.l0])
      | succ k1 =>
        have H := HA.out
        clear HA
        simp only [check_Shapes.l0] at H
        by_cases c11 : x22_1 < (t129.length : Int)
        · rw [if_pos c11] at H
          have c11b0 : decide (x22_1 < (t129.length : Int)) = true := decide_eq_true c11
          clear c11
          by_cases c12 : 0 ≤ x22_1
          · rw [if_pos c12] at H
            have c12b0 : decide (0 ≤ x22_1) = true := decide_eq_true c12
            clear c12
            by_cases c13 : x22_1 < (t129.length : Int)
            · rw [if_pos c13] at H
              have c13b0 : decide (x22_1 < (t129.length : Int)) = true := decide_eq_true c13
              clear c13
              by_cases c14 : x6_1.length < 5864062014805
              · rw [if_pos c14] at H
                have LMc14 := Aside0.mk c14
                clear c14
                obtain ⟨y138, hy138⟩ : ∃ y_ : List (S23), y_ = (x6_1 ++ [(⟨(rd_T96 t129 x22_1).f2.f0, (rd_T96 t129 x22_1).f2.f1, (rd_T96 t129 x22_1).f2.f2⟩ : S23)]) := ⟨_, rfl⟩
                replace H : (check_Shapes.l0 k1 y138 t129 (t129.length : Int) (wrap64 (x22_1 + 1))) = some (r1, r2) := by first | (rw [hy138]; with_reducible exact H) | (have H2_ := (Option.bind_some _ _).symm.trans H; rw [hy138]; with_reducible exact H2_) | (have H2_ := (Option.bind_some _ _).symm.trans H; with_reducible exact H2_) | with_reducible exact H | (rw [hy138]; exact H) | exact H
                have Ny138 := Aside0.mk hy138
                clear hy138
                have H' := Aside0.mk H
                clear H
                have p136 : 0 ≤ (x22_1 : Int) := of_decide_eq_true (by first | (with_reducible assumption) | assumption)
                have q136 : x22_1 < (t129.length : Int) := of_decide_eq_true (by first | (with_reducible assumption) | assumption)
                obtain ⟨ad136, e136, hx136_0, hx136_1, hx136_2, hx136_3, hx136_4, hx136_5, hx136_6, hx136_7, hx136_8, hx136_9, hx136_10, hx136_11⟩ := at_T96 (Kd.R_reads' HO_20.out).2.2 x22_1 p136 q136
                cases e136
                replace p136 := eq_true p136
                replace q136 := eq_true q136
                go_wp2_with (first | ((with_reducible refine gate_dst (N := 8) rfl ?_); refine box_event ?hg (N := 8) ?hd (cs := #[.int .i64 0, .int .i64 0, .int .i64 0, .int .i64 0, .int .i64 0, .int .i64 0, .int .i64 0, .int .i64 0, .int .i64 0, .int .i64 0, .int .i64 0, .int .i64 0]) (t := 96) ?hr ?_; (case hd => rfl); (case hg => rfl); (case hr => first | (go_simp; done) | (go_simp; rfl)); intro gb137 hg w15 hbox hb; have n0_ := Aside0.mk (Kd.R_below (by (with_reducible repeat (first | apply Kd.R_alloc | apply Kd.R_drewN | apply Kd.R_drew)); exact HO_6.out) hb); have n1_ := Aside0.mk (Kd.R_below (Kd.R_elderB (by (with_reducible repeat (first | apply Kd.R_alloc | apply Kd.R_drewN | apply Kd.R_drew)); exact HO_20.out) gb137 (Nat.le_of_eq hg.symm)) hb); have n2_ := Aside0.mk (blk_below (g := gb128) (o := .cells #[.int .i64 a0_0, .int .i64 a0_1, .int .i64 a0_2, .slice A0_3 l0_3.length c0_3] 26 (0, 0)) (by (with_reducible repeat (first | refine blk_drewN ?_ _ | refine blk_drew ?_ | refine blk_alloc ?_ _)); exact BK128.out) hb); have n3_ := Aside0.mk (below_step (by repeat (first | (with_reducible first | exact HB.out | apply below_alloc | apply pw_below_drewN | apply below_drew1 | refine below_set ?_ GE128.out) | exact HB.out)) hb); have n4_ := Aside0.mk (hbox); have n5_ := Aside0.mk ((by rw [hg]; exact (below_size (by repeat (first | (with_reducible first | exact HB.out | apply below_alloc | apply pw_below_drewN | apply below_drew1 | refine below_set ?_ GE128.out) | exact HB.out))) : w.heap.size ≤ gb137)); have n6_ := Aside0.mk ((by rw [hg]; exact (below_size (by repeat (first | (with_reducible first | exact HB.out | apply below_alloc | apply pw_below_drewN | apply below_drew1 | refine below_set ?_ GE128.out) | exact HB.out))) : w.heap.size ≤ gb137)); have n7_ := Aside0.mk ((by rw [hg]; exact Nat.ne_of_lt (blk_lt (g := gb128) (o := .cells #[.int .i64 a0_0, .int .i64 a0_1, .int .i64 a0_2, .slice A0_3 l0_3.length c0_3] 26 (0, 0)) (by (with_reducible repeat (first | refine blk_drewN ?_ _ | refine blk_drew ?_ | refine blk_alloc ?_ _)); exact BK128.out)) : gb128 ≠ gb137)); have n8_ := Aside0.mk ((by rw [hg]; exact Nat.ne_of_gt (blk_lt (g := gb128) (o := .cells #[.int .i64 a0_0, .int .i64 a0_1, .int .i64 a0_2, .slice A0_3 l0_3.length c0_3] 26 (0, 0)) (by (with_reducible repeat (first | refine blk_drewN ?_ _ | refine blk_drew ?_ | refine blk_alloc ?_ _)); exact BK128.out)) : gb137 ≠ gb128)); clear HO_6; clear HO_20; clear BK128; clear HB; have HO_6 := n0_; have HO_20 := n1_; have BK128 := n2_; have HB := n3_; have BK137 := n4_; have GW137 := n5_; have GE137 := n6_; have NB128_137 := n7_; have NB137_128 := n8_; clear n0_ n1_ n2_ n3_ n4_ n5_ n6_ n7_ n8_; clear hb hbox hg; have hnb16 := NB137_128.out; have hnc16 := NB128_137.out; have hcz17_0 : w15.cell? ⟨gb137, 0, none⟩ = some (.int .i64 0) := (blk_cell BK137.out 0).trans rfl; have hcz17_1 : w15.cell? ⟨gb137, 1, none⟩ = some (.int .i64 0) := (blk_cell BK137.out 1).trans rfl; have hcz17_2 : w15.cell? ⟨gb137, 2, none⟩ = some (.int .i64 0) := (blk_cell BK137.out 2).trans rfl; have hcz17_3 : w15.cell? ⟨gb137, 3, none⟩ = some (.int .i64 0) := (blk_cell BK137.out 3).trans rfl; have hcz17_4 : w15.cell? ⟨gb137, 4, none⟩ = some (.int .i64 0) := (blk_cell BK137.out 4).trans rfl; have hcz17_5 : w15.cell? ⟨gb137, 5, none⟩ = some (.int .i64 0) := (blk_cell BK137.out 5).trans rfl; have hcz17_6 : w15.cell? ⟨gb137, 6, none⟩ = some (.int .i64 0) := (blk_cell BK137.out 6).trans rfl; have hcz17_7 : w15.cell? ⟨gb137, 7, none⟩ = some (.int .i64 0) := (blk_cell BK137.out 7).trans rfl; have hcz17_8 : w15.cell? ⟨gb137, 8, none⟩ = some (.int .i64 0) := (blk_cell BK137.out 8).trans rfl; have hcz17_9 : w15.cell? ⟨gb137, 9, none⟩ = some (.int .i64 0) := (blk_cell BK137.out 9).trans rfl; have hcz17_10 : w15.cell? ⟨gb137, 10, none⟩ = some (.int .i64 0) := (blk_cell BK137.out 10).trans rfl; have hcz17_11 : w15.cell? ⟨gb137, 11, none⟩ = some (.int .i64 0) := (blk_cell BK137.out 11).trans rfl; have hfz17_0 := blk_frozen BK137.out 0; have hfz17_1 := blk_frozen BK137.out 1; have hfz17_2 := blk_frozen BK137.out 2; have hfz17_3 := blk_frozen BK137.out 3; have hfz17_4 := blk_frozen BK137.out 4; have hfz17_5 := blk_frozen BK137.out 5; have hfz17_6 := blk_frozen BK137.out 6; have hfz17_7 := blk_frozen BK137.out 7; have hfz17_8 := blk_frozen BK137.out 8; have hfz17_9 := blk_frozen BK137.out 9; have hfz17_10 := blk_frozen BK137.out 10; have hfz17_11 := blk_frozen BK137.out 11) | ((with_reducible refine gate_builtin (b := .append) (xs := #[.tmp 26, .tmp 29]) rfl ?_); at_builtin; refine Kd.R_append k23 (w0 := w) w.heap.size rfl (.tmp 26) (.tmp 29) 38 23 (.agg #[(.int .i64 0), (.int .i64 0), (.int .i64 0)]) 24 rfl Try.underlying38 info23 rfl (by decide) (by omega) u6 x6_1 (⟨(rd_T96 t129 x22_1).f2.f0, (rd_T96 t129 x22_1).f2.f1, (rd_T96 t129 x22_1).f2.f2⟩ : S23) [.int .i64 ((rd_T96 t129 x22_1).f2.f0), .int .i64 ((rd_T96 t129 x22_1).f2.f1), .int .i64 ((rd_T96 t129 x22_1).f2.f2)] (fun _ => True) (fun _ => False) rfl (by first | (go_simp; done) | (go_simp; rfl)) ?aP (fun _ hk => hk.elim) ?aF ?aO ?aB ?aS ?aL ?_; (case aP => exact k23_mkM _ _ _ (⟨(rd_T96 t129 x22_1).f2.f0, (rd_T96 t129 x22_1).f2.f1, (rd_T96 t129 x22_1).f2.f2⟩ : S23)); (case aB => exact (by repeat (first | (with_reducible first | exact HB.out | apply below_alloc | apply pw_below_drewN | apply below_drew1 | refine below_set ?_ GE128.out | refine below_set ?_ GE137.out) | exact HB.out))); (case aF => exact (fun _ _ => trivial)); (case aO => exact (by (with_reducible repeat (first | apply Kd.R_alloc | apply Kd.R_drewN | apply Kd.R_drew)); exact Kd.R_mono (Kd.R_far (p := ⟨gb137, 11, none⟩) (Kd.R_far (p := ⟨gb137, 10, none⟩) (Kd.R_far (p := ⟨gb137, 9, none⟩) (Kd.R_far (p := ⟨gb137, 8, none⟩) (Kd.R_far (p := ⟨gb137, 7, none⟩) (Kd.R_far (p := ⟨gb137, 6, none⟩) (Kd.R_far (p := ⟨gb137, 5, none⟩) (Kd.R_far (p := ⟨gb137, 4, none⟩) (Kd.R_far (p := ⟨gb137, 3, none⟩) (Kd.R_far (p := ⟨gb137, 2, none⟩) (Kd.R_far (p := ⟨gb137, 1, none⟩) (Kd.R_far (p := ⟨gb137, 0, none⟩) (Kd.R_types HO_6.out BK137.out (by decide)) (fun _ hk => hk.2) (.int .i64 ((rd_T96 t129 x22_1).f0.f0))) (fun _ hk => hk.2) (.int .i64 ((rd_T96 t129 x22_1).f0.f1))) (fun _ hk => hk.2) (.int .i64 ((rd_T96 t129 x22_1).f0.f2))) (fun _ hk => hk.2) (.int .i64 ((rd_T96 t129 x22_1).f0.f3))) (fun _ hk => hk.2) (.int .i64 ((rd_T96 t129 x22_1).f1.f0))) (fun _ hk => hk.2) (.int .i64 ((rd_T96 t129 x22_1).f1.f1))) (fun _ hk => hk.2) (.int .i64 ((rd_T96 t129 x22_1).f1.f2))) (fun _ hk => hk.2) (.int .i64 ((rd_T96 t129 x22_1).f2.f0))) (fun _ hk => hk.2) (.int .i64 ((rd_T96 t129 x22_1).f2.f1))) (fun _ hk => hk.2) (.int .i64 ((rd_T96 t129 x22_1).f2.f2))) (fun _ hk => hk.2) (.int .i64 ((rd_T96 t129 x22_1).f3))) (fun _ hk => hk.2) (.int .i64 ((rd_T96 t129 x22_1).f4))) (fun _ hk => trivial))); (case aS => exact (below_size (by repeat (first | (with_reducible first | exact HB.out | apply below_alloc | apply pw_below_drewN | apply below_drew1 | refine below_set ?_ GE128.out | refine below_set ?_ GE137.out) | exact HB.out)))); (case aL => have := LMc14.out; omega); intro v139 w18 ho hb hg hat; rw [← Ny138.out] at ho; have n0_ := Aside0.mk (Kd.R_over' (by (with_reducible repeat (first | apply Kd.R_alloc | apply Kd.R_drewN | apply Kd.R_drew)); exact (Kd.R_mono (Kd.R_far (p := ⟨gb137, 11, none⟩) (Kd.R_far (p := ⟨gb137, 10, none⟩) (Kd.R_far (p := ⟨gb137, 9, none⟩) (Kd.R_far (p := ⟨gb137, 8, none⟩) (Kd.R_far (p := ⟨gb137, 7, none⟩) (Kd.R_far (p := ⟨gb137, 6, none⟩) (Kd.R_far (p := ⟨gb137, 5, none⟩) (Kd.R_far (p := ⟨gb137, 4, none⟩) (Kd.R_far (p := ⟨gb137, 3, none⟩) (Kd.R_far (p := ⟨gb137, 2, none⟩) (Kd.R_far (p := ⟨gb137, 1, none⟩) (Kd.R_far (p := ⟨gb137, 0, none⟩) (Kd.R_mono HO_20.out (fun k_ hk => (⟨hk, hk.2⟩ : _ ∧ k_ ≠ gb137))) (fun _ hk => hk.2) (.int .i64 ((rd_T96 t129 x22_1).f0.f0))) (fun _ hk => hk.2) (.int .i64 ((rd_T96 t129 x22_1).f0.f1))) (fun _ hk => hk.2) (.int .i64 ((rd_T96 t129 x22_1).f0.f2))) (fun _ hk => hk.2) (.int .i64 ((rd_T96 t129 x22_1).f0.f3))) (fun _ hk => hk.2) (.int .i64 ((rd_T96 t129 x22_1).f1.f0))) (fun _ hk => hk.2) (.int .i64 ((rd_T96 t129 x22_1).f1.f1))) (fun _ hk => hk.2) (.int .i64 ((rd_T96 t129 x22_1).f1.f2))) (fun _ hk => hk.2) (.int .i64 ((rd_T96 t129 x22_1).f2.f0))) (fun _ hk => hk.2) (.int .i64 ((rd_T96 t129 x22_1).f2.f1))) (fun _ hk => hk.2) (.int .i64 ((rd_T96 t129 x22_1).f2.f2))) (fun _ hk => hk.2) (.int .i64 ((rd_T96 t129 x22_1).f3))) (fun _ hk => hk.2) (.int .i64 ((rd_T96 t129 x22_1).f4))) (fun _ h_ => h_.1))) (Kd.R_typed (by (with_reducible repeat (first | apply Kd.R_alloc | apply Kd.R_drewN | apply Kd.R_drew)); exact (Kd.R_mono (Kd.R_far (p := ⟨gb137, 11, none⟩) (Kd.R_far (p := ⟨gb137, 10, none⟩) (Kd.R_far (p := ⟨gb137, 9, none⟩) (Kd.R_far (p := ⟨gb137, 8, none⟩) (Kd.R_far (p := ⟨gb137, 7, none⟩) (Kd.R_far (p := ⟨gb137, 6, none⟩) (Kd.R_far (p := ⟨gb137, 5, none⟩) (Kd.R_far (p := ⟨gb137, 4, none⟩) (Kd.R_far (p := ⟨gb137, 3, none⟩) (Kd.R_far (p := ⟨gb137, 2, none⟩) (Kd.R_far (p := ⟨gb137, 1, none⟩) (Kd.R_far (p := ⟨gb137, 0, none⟩) (Kd.R_types HO_6.out BK137.out (by decide)) (fun _ hk => hk.2) (.int .i64 ((rd_T96 t129 x22_1).f0.f0))) (fun _ hk => hk.2) (.int .i64 ((rd_T96 t129 x22_1).f0.f1))) (fun _ hk => hk.2) (.int .i64 ((rd_T96 t129 x22_1).f0.f2))) (fun _ hk => hk.2) (.int .i64 ((rd_T96 t129 x22_1).f0.f3))) (fun _ hk => hk.2) (.int .i64 ((rd_T96 t129 x22_1).f1.f0))) (fun _ hk => hk.2) (.int .i64 ((rd_T96 t129 x22_1).f1.f1))) (fun _ hk => hk.2) (.int .i64 ((rd_T96 t129 x22_1).f1.f2))) (fun _ hk => hk.2) (.int .i64 ((rd_T96 t129 x22_1).f2.f0))) (fun _ hk => hk.2) (.int .i64 ((rd_T96 t129 x22_1).f2.f1))) (fun _ hk => hk.2) (.int .i64 ((rd_T96 t129 x22_1).f2.f2))) (fun _ hk => hk.2) (.int .i64 ((rd_T96 t129 x22_1).f3))) (fun _ hk => hk.2) (.int .i64 ((rd_T96 t129 x22_1).f4))) (fun _ h_ => h_.1)))) (by decide) hg); have n1_ := Aside0.mk (blk_grown (g := gb128) (o := .cells #[.int .i64 a0_0, .int .i64 a0_1, .int .i64 a0_2, .slice A0_3 l0_3.length c0_3] 26 (0, 0)) (by (with_reducible repeat (first | refine blk_drewN ?_ _ | refine blk_drew ?_ | refine blk_alloc ?_ _)); refine blk_far ?_ NB128_137.out _; (with_reducible repeat (first | refine blk_drewN ?_ _ | refine blk_drew ?_ | refine blk_alloc ?_ _)); refine blk_far ?_ NB128_137.out _; (with_reducible repeat (first | refine blk_drewN ?_ _ | refine blk_drew ?_ | refine blk_alloc ?_ _)); refine blk_far ?_ NB128_137.out _; (with_reducible repeat (first | refine blk_drewN ?_ _ | refine blk_drew ?_ | refine blk_alloc ?_ _)); refine blk_far ?_ NB128_137.out _; (with_reducible repeat (first | refine blk_drewN ?_ _ | refine blk_drew ?_ | refine blk_alloc ?_ _)); refine blk_far ?_ NB128_137.out _; (with_reducible repeat (first | refine blk_drewN ?_ _ | refine blk_drew ?_ | refine blk_alloc ?_ _)); refine blk_far ?_ NB128_137.out _; (with_reducible repeat (first | refine blk_drewN ?_ _ | refine blk_drew ?_ | refine blk_alloc ?_ _)); refine blk_far ?_ NB128_137.out _; (with_reducible repeat (first | refine blk_drewN ?_ _ | refine blk_drew ?_ | refine blk_alloc ?_ _)); refine blk_far ?_ NB128_137.out _; (with_reducible repeat (first | refine blk_drewN ?_ _ | refine blk_drew ?_ | refine blk_alloc ?_ _)); refine blk_far ?_ NB128_137.out _; (with_reducible repeat (first | refine blk_drewN ?_ _ | refine blk_drew ?_ | refine blk_alloc ?_ _)); refine blk_far ?_ NB128_137.out _; (with_reducible repeat (first | refine blk_drewN ?_ _ | refine blk_drew ?_ | refine blk_alloc ?_ _)); refine blk_far ?_ NB128_137.out _; (with_reducible repeat (first | refine blk_drewN ?_ _ | refine blk_drew ?_ | refine blk_alloc ?_ _)); refine blk_far ?_ NB128_137.out _; (with_reducible repeat (first | refine blk_drewN ?_ _ | refine blk_drew ?_ | refine blk_alloc ?_ _)); exact BK128.out) hg (Kd.R_ne HO_6.out BK128.out (by decide))); have n2_ := Aside0.mk (blk_grown (g := gb137) (o := .cells #[.int .i64 ((rd_T96 t129 x22_1).f0.f0), .int .i64 ((rd_T96 t129 x22_1).f0.f1), .int .i64 ((rd_T96 t129 x22_1).f0.f2), .int .i64 ((rd_T96 t129 x22_1).f0.f3), .int .i64 ((rd_T96 t129 x22_1).f1.f0), .int .i64 ((rd_T96 t129 x22_1).f1.f1), .int .i64 ((rd_T96 t129 x22_1).f1.f2), .int .i64 ((rd_T96 t129 x22_1).f2.f0), .int .i64 ((rd_T96 t129 x22_1).f2.f1), .int .i64 ((rd_T96 t129 x22_1).f2.f2), .int .i64 ((rd_T96 t129 x22_1).f3), .int .i64 ((rd_T96 t129 x22_1).f4)] 96 (0, 0)) (by (with_reducible repeat (first | refine blk_drewN ?_ _ | refine blk_drew ?_ | refine blk_alloc ?_ _)); refine blk_put (cs := #[.int .i64 ((rd_T96 t129 x22_1).f0.f0), .int .i64 ((rd_T96 t129 x22_1).f0.f1), .int .i64 ((rd_T96 t129 x22_1).f0.f2), .int .i64 ((rd_T96 t129 x22_1).f0.f3), .int .i64 ((rd_T96 t129 x22_1).f1.f0), .int .i64 ((rd_T96 t129 x22_1).f1.f1), .int .i64 ((rd_T96 t129 x22_1).f1.f2), .int .i64 ((rd_T96 t129 x22_1).f2.f0), .int .i64 ((rd_T96 t129 x22_1).f2.f1), .int .i64 ((rd_T96 t129 x22_1).f2.f2), .int .i64 ((rd_T96 t129 x22_1).f3), .int .i64 0]) ?_ 11 _ rfl; (with_reducible repeat (first | refine blk_drewN ?_ _ | refine blk_drew ?_ | refine blk_alloc ?_ _)); refine blk_put (cs := #[.int .i64 ((rd_T96 t129 x22_1).f0.f0), .int .i64 ((rd_T96 t129 x22_1).f0.f1), .int .i64 ((rd_T96 t129 x22_1).f0.f2), .int .i64 ((rd_T96 t129 x22_1).f0.f3), .int .i64 ((rd_T96 t129 x22_1).f1.f0), .int .i64 ((rd_T96 t129 x22_1).f1.f1), .int .i64 ((rd_T96 t129 x22_1).f1.f2), .int .i64 ((rd_T96 t129 x22_1).f2.f0), .int .i64 ((rd_T96 t129 x22_1).f2.f1), .int .i64 ((rd_T96 t129 x22_1).f2.f2), .int .i64 0, .int .i64 0]) ?_ 10 _ rfl; (with_reducible repeat (first | refine blk_drewN ?_ _ | refine blk_drew ?_ | refine blk_alloc ?_ _)); refine blk_put (cs := #[.int .i64 ((rd_T96 t129 x22_1).f0.f0), .int .i64 ((rd_T96 t129 x22_1).f0.f1), .int .i64 ((rd_T96 t129 x22_1).f0.f2), .int .i64 ((rd_T96 t129 x22_1).f0.f3), .int .i64 ((rd_T96 t129 x22_1).f1.f0), .int .i64 ((rd_T96 t129 x22_1).f1.f1), .int .i64 ((rd_T96 t129 x22_1).f1.f2), .int .i64 ((rd_T96 t129 x22_1).f2.f0), .int .i64 ((rd_T96 t129 x22_1).f2.f1), .int .i64 0, .int .i64 0, .int .i64 0]) ?_ 9 _ rfl; (with_reducible repeat (first | refine blk_drewN ?_ _ | refine blk_drew ?_ | refine blk_alloc ?_ _)); refine blk_put (cs := #[.int .i64 ((rd_T96 t129 x22_1).f0.f0), .int .i64 ((rd_T96 t129 x22_1).f0.f1), .int .i64 ((rd_T96 t129 x22_1).f0.f2), .int .i64 ((rd_T96 t129 x22_1).f0.f3), .int .i64 ((rd_T96 t129 x22_1).f1.f0), .int .i64 ((rd_T96 t129 x22_1).f1.f1), .int .i64 ((rd_T96 t129 x22_1).f1.f2), .int .i64 ((rd_T96 t129 x22_1).f2.f0), .int .i64 0, .int .i64 0, .int .i64 0, .int .i64 0]) ?_ 8 _ rfl; (with_reducible repeat (first | refine blk_drewN ?_ _ | refine blk_drew ?_ | refine blk_alloc ?_ _)); refine blk_put (cs := #[.int .i64 ((rd_T96 t129 x22_1).f0.f0), .int .i64 ((rd_T96 t129 x22_1).f0.f1), .int .i64 ((rd_T96 t129 x22_1).f0.f2), .int .i64 ((rd_T96 t129 x22_1).f0.f3), .int .i64 ((rd_T96 t129 x22_1).f1.f0), .int .i64 ((rd_T96 t129 x22_1).f1.f1), .int .i64 ((rd_T96 t129 x22_1).f1.f2), .int .i64 0, .int .i64 0, .int .i64 0, .int .i64 0, .int .i64 0]) ?_ 7 _ rfl; (with_reducible repeat (first | refine blk_drewN ?_ _ | refine blk_drew ?_ | refine blk_alloc ?_ _)); refine blk_put (cs := #[.int .i64 ((rd_T96 t129 x22_1).f0.f0), .int .i64 ((rd_T96 t129 x22_1).f0.f1), .int .i64 ((rd_T96 t129 x22_1).f0.f2), .int .i64 ((rd_T96 t129 x22_1).f0.f3), .int .i64 ((rd_T96 t129 x22_1).f1.f0), .int .i64 ((rd_T96 t129 x22_1).f1.f1), .int .i64 0, .int .i64 0, .int .i64 0, .int .i64 0, .int .i64 0, .int .i64 0]) ?_ 6 _ rfl; (with_reducible repeat (first | refine blk_drewN ?_ _ | refine blk_drew ?_ | refine blk_alloc ?_ _)); refine blk_put (cs := #[.int .i64 ((rd_T96 t129 x22_1).f0.f0), .int .i64 ((rd_T96 t129 x22_1).f0.f1), .int .i64 ((rd_T96 t129 x22_1).f0.f2), .int .i64 ((rd_T96 t129 x22_1).f0.f3), .int .i64 ((rd_T96 t129 x22_1).f1.f0), .int .i64 0, .int .i64 0, .int .i64 0, .int .i64 0, .int .i64 0, .int .i64 0, .int .i64 0]) ?_ 5 _ rfl; (with_reducible repeat (first | refine blk_drewN ?_ _ | refine blk_drew ?_ | refine blk_alloc ?_ _)); refine blk_put (cs := #[.int .i64 ((rd_T96 t129 x22_1).f0.f0), .int .i64 ((rd_T96 t129 x22_1).f0.f1), .int .i64 ((rd_T96 t129 x22_1).f0.f2), .int .i64 ((rd_T96 t129 x22_1).f0.f3), .int .i64 0, .int .i64 0, .int .i64 0, .int .i64 0, .int .i64 0, .int .i64 0, .int .i64 0, .int .i64 0]) ?_ 4 _ rfl; (with_reducible repeat (first | refine blk_drewN ?_ _ | refine blk_drew ?_ | refine blk_alloc ?_ _)); refine blk_put (cs := #[.int .i64 ((rd_T96 t129 x22_1).f0.f0), .int .i64 ((rd_T96 t129 x22_1).f0.f1), .int .i64 ((rd_T96 t129 x22_1).f0.f2), .int .i64 0, .int .i64 0, .int .i64 0, .int .i64 0, .int .i64 0, .int .i64 0, .int .i64 0, .int .i64 0, .int .i64 0]) ?_ 3 _ rfl; (with_reducible repeat (first | refine blk_drewN ?_ _ | refine blk_drew ?_ | refine blk_alloc ?_ _)); refine blk_put (cs := #[.int .i64 ((rd_T96 t129 x22_1).f0.f0), .int .i64 ((rd_T96 t129 x22_1).f0.f1), .int .i64 0, .int .i64 0, .int .i64 0, .int .i64 0, .int .i64 0, .int .i64 0, .int .i64 0, .int .i64 0, .int .i64 0, .int .i64 0]) ?_ 2 _ rfl; (with_reducible repeat (first | refine blk_drewN ?_ _ | refine blk_drew ?_ | refine blk_alloc ?_ _)); refine blk_put (cs := #[.int .i64 ((rd_T96 t129 x22_1).f0.f0), .int .i64 0, .int .i64 0, .int .i64 0, .int .i64 0, .int .i64 0, .int .i64 0, .int .i64 0, .int .i64 0, .int .i64 0, .int .i64 0, .int .i64 0]) ?_ 1 _ rfl; (with_reducible repeat (first | refine blk_drewN ?_ _ | refine blk_drew ?_ | refine blk_alloc ?_ _)); refine blk_put (cs := #[.int .i64 0, .int .i64 0, .int .i64 0, .int .i64 0, .int .i64 0, .int .i64 0, .int .i64 0, .int .i64 0, .int .i64 0, .int .i64 0, .int .i64 0, .int .i64 0]) ?_ 0 _ rfl; (with_reducible repeat (first | refine blk_drewN ?_ _ | refine blk_drew ?_ | refine blk_alloc ?_ _)); exact BK137.out) hg (Kd.R_ne HO_6.out BK137.out (by decide))); have n3_ := Aside0.mk (hb); have n4_ := Aside0.mk (ho); clear HO_20; clear BK128; clear BK137; clear HB; clear HO_6; have HO_20 := n0_; have BK128 := n1_; have BK137 := n2_; have HB := n3_; have HO140 := n4_; clear n0_ n1_ n2_ n3_ n4_; clear ho hb hg hat))
                go_roundg k1
                case measure => have := HK1.out; omega
                case rel => exact ⟨(y138), (wrap64 (x22_1 + 1)), (by first | rfl | (simp; done) | (simp [*]; done)), H', ⟨by have := HK1.out; omega⟩, ⟨by (with_reducible repeat (first | apply Kd.R_alloc | apply Kd.R_drewN | apply Kd.R_drew)); exact HO140.out⟩, ⟨by (with_reducible repeat (first | apply Kd.R_alloc | apply Kd.R_drewN | apply Kd.R_drew)); exact Kd.R_mono HO_20.out (fun _ hk => trivial)⟩, ⟨by (with_reducible repeat (first | refine blk_drewN ?_ _ | refine blk_drew ?_ | refine blk_alloc ?_ _)); exact BK128.out⟩, ⟨by repeat (first | (with_reducible first | exact HB.out | apply below_alloc | apply pw_below_drewN | apply below_drew1 | refine below_set ?_ GE128.out | refine below_set ?_ GE137.out) | exact HB.out)⟩⟩
              · rw [if_neg c14] at H
                exact absurd H (by simp)
            · rw [if_neg c13] at H
              exact absurd H (by simp)
          · rw [if_neg c12] at H
            exact absurd H (by simp)
        · rw [if_neg c11] at H
          have c11b0 : decide (x22_1 < (t129.length : Int)) = false := decide_eq_false c11
          clear c11
          simp only [Option.some.injEq, Prod.mk.injEq] at H
          obtain ⟨rfl, rfl⟩ := H
          go_wp2
          go_ret2
          exact ⟨_, by first | rfl | (simp [errW_none, errW_some] <;> rfl) | (simp [*, errW_none, errW_some] <;> rfl), by (with_reducible repeat (first | apply Kd.R_alloc | apply Kd.R_drewN | apply Kd.R_drew)); exact HO_6.out, by repeat (first | (with_reducible first | exact HB.out | apply below_alloc | apply pw_below_drewN | apply below_drew1 | refine below_set ?_ GE128.out) | exact HB.out)⟩
  · rw [if_neg c3] at H
    have c3b0 : (t132 == 0) = false := beq_eq_false_iff_ne.mpr c3
    have c3b1 : (t132 != 0) = true := bne_iff_ne.mpr c3
    simp only [Option.some.injEq, Prod.mk.injEq] at H
    obtain ⟨rfl, rfl⟩ := H
    go_enter Try.func39, Try.ntmps39
    go_wp2_with (first | ((with_reducible refine gate_dst (N := 1) rfl ?_); refine box_event ?hg (N := 1) ?hd (cs := #[.int .i64 a0_0, .int .i64 a0_1, .int .i64 a0_2, .slice A0_3 l0_3.length c0_3]) (t := 26) ?hr ?_; (case hd => rfl); (case hg => rfl); (case hr => first | (go_simp; done) | (go_simp; rfl)); intro gb128 hg w19 hbox hb; have n0_ := Aside0.mk (below_step (by repeat (first | (with_reducible first | exact HB.out | apply below_alloc | apply pw_below_drewN | apply below_drew1) | exact HB.out)) hb); have n1_ := Aside0.mk (hbox); have n2_ := Aside0.mk ((by rw [hg]; exact (below_size (by repeat (first | (with_reducible first | exact HB.out | apply below_alloc | apply pw_below_drewN | apply below_drew1) | exact HB.out))) : w.heap.size ≤ gb128)); have n3_ := Aside0.mk ((by rw [hg]; exact (below_size (by repeat (first | (with_reducible first | exact HB.out | apply below_alloc | apply pw_below_drewN | apply below_drew1) | exact HB.out))) : w.heap.size ≤ gb128)); clear HB; have HB := n0_; have BK128 := n1_; have GW128 := n2_; have GE128 := n3_; clear n0_ n1_ n2_ n3_; clear hb hbox hg; have hcz20_0 : w19.cell? ⟨gb128, 0, none⟩ = some (.int .i64 a0_0) := (blk_cell BK128.out 0).trans rfl; have hcz20_1 : w19.cell? ⟨gb128, 1, none⟩ = some (.int .i64 a0_1) := (blk_cell BK128.out 1).trans rfl; have hcz20_2 : w19.cell? ⟨gb128, 2, none⟩ = some (.int .i64 a0_2) := (blk_cell BK128.out 2).trans rfl; have hcz20_3 : w19.cell? ⟨gb128, 3, none⟩ = some (.slice A0_3 l0_3.length c0_3) := (blk_cell BK128.out 3).trans rfl; have hfz20_0 := blk_frozen BK128.out 0; have hfz20_1 := blk_frozen BK128.out 1; have hfz20_2 := blk_frozen BK128.out 2; have hfz20_3 := blk_frozen BK128.out 3) | ((with_reducible refine gate_callee (f := 58) rfl ?_); refine goesL_ (some 11) rfl rfl Try.func58 (by kernel_rfl) rfl #[.agg #[.int .i64 a0_0, .int .i64 a0_1, .int .i64 a0_2, .slice A0_3 l0_3.length c0_3]] rfl (by (try simp only [List.map_toArray, List.map_cons, List.map_nil]); first | done | rfl | (simp only [List.length_drop, List.length_take]; rfl)) ?_; (with_reducible refine (check_all.calls a0_0 a0_1 a0_2 _ _ l0_3 t129 t132 _ ?side1 ?side2 A2.out).mono ?_); (case side1 => repeat (first | exact (Kd.C_below HR0_3.out HB.out) | (with_reducible refine Kd.C_alloc ?_ _) | (with_reducible refine Kd.C_drewN ?_ _) | (with_reducible refine Kd.C_drew ?_))); (case side2 => exact HC0_3.out); rintro e w21 ⟨v130, rfl, ho0, hb⟩; refine ⟨_, rfl, ?_⟩; have n0_ := Aside0.mk (Kd.R_lower ho0 (below_size (by repeat (first | (with_reducible first | exact HB.out | apply below_alloc | apply pw_below_drewN | apply below_drew1 | refine below_set ?_ GE128.out) | exact HB.out)))); have n1_ := Aside0.mk (blk_below (g := gb128) (o := .cells #[.int .i64 a0_0, .int .i64 a0_1, .int .i64 a0_2, .slice A0_3 l0_3.length c0_3] 26 (0, 0)) (by (with_reducible repeat (first | refine blk_drewN ?_ _ | refine blk_drew ?_ | refine blk_alloc ?_ _)); exact BK128.out) hb); have n2_ := Aside0.mk (below_step (by repeat (first | (with_reducible first | exact HB.out | apply below_alloc | apply pw_below_drewN | apply below_drew1 | refine below_set ?_ GE128.out) | exact HB.out)) hb); clear BK128; clear HB; have HO131 := n0_; have BK128 := n1_; have HB := n2_; clear n0_ n1_ n2_; (try clear hb); (try clear hb2); (try clear hk); (try clear hi); (try clear ho0)))
    go_ret2
    exact ⟨_, by first | rfl | (simp [errW_none, errW_some] <;> rfl) | (simp [*, errW_none, errW_some] <;> rfl), by first | exact Kd.R_nil _ _ _ _ _ | exact Kd.N_nil _ _ _ _ _ | exact Kd.V_nil _ _ _ _ _ | exact Kd.Q_nil _ _ _ _ _ | exact Kd.S_nil _ _ _ _ _, by repeat (first | (with_reducible first | exact HB.out | apply below_alloc | apply pw_below_drewN | apply below_drew1 | refine below_set ?_ GE128.out) | exact HB.out)⟩

end Go.Proofs.Ytjegihodmidhoaa.G
namespace Go.Proofs.Ytjegihodmidhoaa.G
open Go.RowKit Go.Proofs.YtjegihodmidhoaaW.PrintWords Go.Proofs.YtjegihodmidhoaaW.PrintLast Go.Proofs.YtjegihodmidhoaaW.PrintMore
attribute [local go_sem] max2_int min2_int max_two min_two max_three min_three max_four min_four   -- for this text's walks alone
set_option linter.unusedVariables false
set_option linter.unusedSimpArgs false

/-! ### check_Weights: function 93 -/
def check_Weights.l0 : Nat → Int → Int → List (S96) → Int → Int → Option (Int × Int)
  | 0, _, _, _, _, _ => none
  | k + 1, x1, x6, x16, x17, x18 => if x18 < x17 then (if 0 ≤ x18 then (if x18 < (x16.length : Int) then (if x18 = x1 then (some (x6, (rd_T96 x16 x18).f3)) else (check_Weights.l0 k x1 (wrap64 (x6 + ((rd_T96 x16 x18).f3))) x16 x17 (wrap64 (x18 + 1)))) else (none)) else (none)) else (some (0, 0))
def check_Weights.f (k : Nat) (a0_0 : Int) (a0_1 : Int) (a0_2 : Int) (l0_3 : List (S63)) (a1 : Int) : Option (Int × Int) := (check_all.f a0_0 a0_1 a0_2 l0_3).bind fun bt361 => (check_Weights.l0 k a1 0 bt361.1 (bt361.1.length : Int) 0)
theorem check_Weights.mono_l : ∀ k, (∀ y0 y1 y2 y3 y4, LeO (check_Weights.l0 k y0 y1 y2 y3 y4) (check_Weights.l0 (k + 1) y0 y1 y2 y3 y4))
  | 0 => fun _ _ _ _ _ r h => by simp [check_Weights.l0] at h
  | k + 1 => by
    have ih0 := check_Weights.mono_l k
    · intro y0 y1 y2 y3 y4
      unfold check_Weights.l0
      repeat' first
      | (with_reducible exact ih0 _ _ _ _ _)
      | (with_reducible exact LeO.refl _)
      | (with_reducible exact LeO.none _)
      | (with_reducible refine LeO.ite ?_ ?_)
      | (with_reducible refine LeO.bind ?_ (fun _ => ?_))
      | exact ih0 _ _ _ _ _
      | exact LeO.none _
      | refine LeO.ite ?_ ?_
      | refine LeO.bind ?_ (fun _ => ?_)
theorem check_Weights.mono : ∀ a0 a1 a2 a3 a4 k, LeO (check_Weights.f k a0 a1 a2 a3 a4) (check_Weights.f (k + 1) a0 a1 a2 a3 a4) := by
  intro a0 a1 a2 a3 a4 k
  have ih0 := check_Weights.mono_l k
  unfold check_Weights.f
  repeat' first
      | (with_reducible exact ih0 _ _ _ _ _)
      | (with_reducible exact LeO.refl _)
      | (with_reducible exact LeO.none _)
      | (with_reducible refine LeO.ite ?_ ?_)
      | (with_reducible refine LeO.bind ?_ (fun _ => ?_))
      | exact ih0 _ _ _ _ _
      | exact LeO.none _
      | refine LeO.ite ?_ ?_
      | refine LeO.bind ?_ (fun _ => ?_)
set_option maxHeartbeats 8000000 in
set_option maxRecDepth 100000 in
theorem check_Weights.calls (k : Nat) (a0_0 : Int) (a0_1 : Int) (a0_2 : Int) (A0_3 : Option Addr) (c0_3 : Nat) (l0_3 : List (S63)) (a1 : Int) (r1 : Int) (r2 : Int) (w : World) (hr0_3 : Kd.C k63 w A0_3 l0_3.length l0_3) (hc0_3 : l0_3.length ≤ c0_3) (h : check_Weights.f k a0_0 a0_1 a0_2 l0_3 a1 = some (r1, r2)) :
    Calls Try.prog 93 #[.agg #[.int .i64 a0_0, .int .i64 a0_1, .int .i64 a0_2, .slice A0_3 l0_3.length c0_3], .int .i64 a1] w fun e w' => e = .returned (.tuple #[.int .i64 r1, .int .i64 r2]) ∧ Below w.heap.size w w' := by
  have hu26 := Try.underlying26
  have hu96 := Try.underlying96
  have HR0_3 := Aside0.mk hr0_3
  have HC0_3 := Aside0.mk hc0_3
  clear hr0_3 hc0_3
  have HB := Aside0.mk (Below.refl w.heap.size w)
  have H : ((check_all.f a0_0 a0_1 a0_2 l0_3).bind fun bt361 => (check_Weights.l0 k a1 0 bt361.1 (bt361.1.length : Int) 0)) = some (r1, r2) := h
  clear h
  replace H := Option.bind_eq_some_iff.mp H
  obtain ⟨⟨t361, t364⟩, A30, H⟩ := H
  replace H : (check_Weights.l0 k a1 0 t361 (t361.length : Int) 0) = some (r1, r2) := H
  have A3 := Aside0.mk A30
  clear A30
  have H' := Aside0.mk H
  clear H
  go_enter Try.func93, Try.ntmps93
  go_wp2_with (first | ((with_reducible refine gate_dst (N := 2) rfl ?_); refine box_event ?hg (N := 2) ?hd (cs := #[.int .i64 a0_0, .int .i64 a0_1, .int .i64 a0_2, .slice A0_3 l0_3.length c0_3]) (t := 26) ?hr ?_; (case hd => rfl); (case hg => rfl); (case hr => first | (go_simp; done) | (go_simp; rfl)); intro gb360 hg w4 hbox hb; have n0_ := Aside0.mk (below_step (by repeat (first | (with_reducible first | exact HB.out | apply below_alloc | apply pw_below_drewN | apply below_drew1) | exact HB.out)) hb); have n1_ := Aside0.mk (hbox); have n2_ := Aside0.mk ((by rw [hg]; exact (below_size (by repeat (first | (with_reducible first | exact HB.out | apply below_alloc | apply pw_below_drewN | apply below_drew1) | exact HB.out))) : w.heap.size ≤ gb360)); have n3_ := Aside0.mk ((by rw [hg]; exact (below_size (by repeat (first | (with_reducible first | exact HB.out | apply below_alloc | apply pw_below_drewN | apply below_drew1) | exact HB.out))) : w.heap.size ≤ gb360)); clear HB; have HB := n0_; have BK360 := n1_; have GW360 := n2_; have GE360 := n3_; clear n0_ n1_ n2_ n3_; clear hb hbox hg; have hcz5_0 : w4.cell? ⟨gb360, 0, none⟩ = some (.int .i64 a0_0) := (blk_cell BK360.out 0).trans rfl; have hcz5_1 : w4.cell? ⟨gb360, 1, none⟩ = some (.int .i64 a0_1) := (blk_cell BK360.out 1).trans rfl; have hcz5_2 : w4.cell? ⟨gb360, 2, none⟩ = some (.int .i64 a0_2) := (blk_cell BK360.out 2).trans rfl; have hcz5_3 : w4.cell? ⟨gb360, 3, none⟩ = some (.slice A0_3 l0_3.length c0_3) := (blk_cell BK360.out 3).trans rfl; have hfz5_0 := blk_frozen BK360.out 0; have hfz5_1 := blk_frozen BK360.out 1; have hfz5_2 := blk_frozen BK360.out 2; have hfz5_3 := blk_frozen BK360.out 3) | (go_at_call 58; (with_reducible refine (check_all.calls a0_0 a0_1 a0_2 _ _ l0_3 t361 t364 _ ?side1 ?side2 A3.out).mono ?_); (case side1 => repeat (first | exact (Kd.C_below HR0_3.out HB.out) | (with_reducible refine Kd.C_alloc ?_ _) | (with_reducible refine Kd.C_drewN ?_ _) | (with_reducible refine Kd.C_drew ?_))); (case side2 => exact HC0_3.out); rintro e w6 ⟨v362, rfl, ho0, hb⟩; have n0_ := Aside0.mk (Kd.R_lower ho0 (below_size (by repeat (first | (with_reducible first | exact HB.out | apply below_alloc | apply pw_below_drewN | apply below_drew1 | refine below_set ?_ GE360.out) | exact HB.out)))); have n1_ := Aside0.mk (blk_below (g := gb360) (o := .cells #[.int .i64 a0_0, .int .i64 a0_1, .int .i64 a0_2, .slice A0_3 l0_3.length c0_3] 26 (0, 0)) (by (with_reducible repeat (first | refine blk_drewN ?_ _ | refine blk_drew ?_ | refine blk_alloc ?_ _)); exact BK360.out) hb); have n2_ := Aside0.mk (below_step (by repeat (first | (with_reducible first | exact HB.out | apply below_alloc | apply pw_below_drewN | apply below_drew1 | refine below_set ?_ GE360.out) | exact HB.out)) hb); clear BK360; clear HB; have HO363 := n0_; have BK360 := n1_; have HB := n2_; clear n0_ n1_ n2_; (try clear hb); (try clear hb2); (try clear hk); (try clear hi); (try clear ho0); obtain ⟨Ao7, co7, eo7⟩ := Kd.R_slice HO363.out; subst eo7))
  repeat (go_quiet (first | ((with_reducible refine gate_dst (N := 2) rfl ?_); refine box_event ?hg (N := 2) ?hd (cs := #[.int .i64 a0_0, .int .i64 a0_1, .int .i64 a0_2, .slice A0_3 l0_3.length c0_3]) (t := 26) ?hr ?_; (case hd => rfl); (case hg => rfl); (case hr => first | (go_simp; done) | (go_simp; rfl)); intro gb360 hg w4 hbox hb; have n0_ := Aside0.mk (below_step (by repeat (first | (with_reducible first | exact HB.out | apply below_alloc | apply pw_below_drewN | apply below_drew1) | exact HB.out)) hb); have n1_ := Aside0.mk (hbox); have n2_ := Aside0.mk ((by rw [hg]; exact (below_size (by repeat (first | (with_reducible first | exact HB.out | apply below_alloc | apply pw_below_drewN | apply below_drew1) | exact HB.out))) : w.heap.size ≤ gb360)); have n3_ := Aside0.mk ((by rw [hg]; exact (below_size (by repeat (first | (with_reducible first | exact HB.out | apply below_alloc | apply pw_below_drewN | apply below_drew1) | exact HB.out))) : w.heap.size ≤ gb360)); clear HB; have HB := n0_; have BK360 := n1_; have GW360 := n2_; have GE360 := n3_; clear n0_ n1_ n2_ n3_; clear hb hbox hg; have hcz5_0 : w4.cell? ⟨gb360, 0, none⟩ = some (.int .i64 a0_0) := (blk_cell BK360.out 0).trans rfl; have hcz5_1 : w4.cell? ⟨gb360, 1, none⟩ = some (.int .i64 a0_1) := (blk_cell BK360.out 1).trans rfl; have hcz5_2 : w4.cell? ⟨gb360, 2, none⟩ = some (.int .i64 a0_2) := (blk_cell BK360.out 2).trans rfl; have hcz5_3 : w4.cell? ⟨gb360, 3, none⟩ = some (.slice A0_3 l0_3.length c0_3) := (blk_cell BK360.out 3).trans rfl; have hfz5_0 := blk_frozen BK360.out 0; have hfz5_1 := blk_frozen BK360.out 1; have hfz5_2 := blk_frozen BK360.out 2; have hfz5_3 := blk_frozen BK360.out 3) | (go_at_call 58; (with_reducible refine (check_all.calls a0_0 a0_1 a0_2 _ _ l0_3 t361 t364 _ ?side1 ?side2 A3.out).mono ?_); (case side1 => repeat (first | exact (Kd.C_below HR0_3.out HB.out) | (with_reducible refine Kd.C_alloc ?_ _) | (with_reducible refine Kd.C_drewN ?_ _) | (with_reducible refine Kd.C_drew ?_))); (case side2 => exact HC0_3.out); rintro e w6 ⟨v362, rfl, ho0, hb⟩; have n0_ := Aside0.mk (Kd.R_lower ho0 (below_size (by repeat (first | (with_reducible first | exact HB.out | apply below_alloc | apply pw_below_drewN | apply below_drew1 | refine below_set ?_ GE360.out) | exact HB.out)))); have n1_ := Aside0.mk (blk_below (g := gb360) (o := .cells #[.int .i64 a0_0, .int .i64 a0_1, .int .i64 a0_2, .slice A0_3 l0_3.length c0_3] 26 (0, 0)) (by (with_reducible repeat (first | refine blk_drewN ?_ _ | refine blk_drew ?_ | refine blk_alloc ?_ _)); exact BK360.out) hb); have n2_ := Aside0.mk (below_step (by repeat (first | (with_reducible first | exact HB.out | apply below_alloc | apply pw_below_drewN | apply below_drew1 | refine below_set ?_ GE360.out) | exact HB.out)) hb); clear BK360; clear HB; have HO363 := n0_; have BK360 := n1_; have HB := n2_; clear n0_ n1_ n2_; (try clear hb); (try clear hb2); (try clear hk); (try clear hi); (try clear ho0); obtain ⟨Ao7, co7, eo7⟩ := Kd.R_slice HO363.out; subst eo7)); try go_wp2_with (first | ((with_reducible refine gate_dst (N := 2) rfl ?_); refine box_event ?hg (N := 2) ?hd (cs := #[.int .i64 a0_0, .int .i64 a0_1, .int .i64 a0_2, .slice A0_3 l0_3.length c0_3]) (t := 26) ?hr ?_; (case hd => rfl); (case hg => rfl); (case hr => first | (go_simp; done) | (go_simp; rfl)); intro gb360 hg w4 hbox hb; have n0_ := Aside0.mk (below_step (by repeat (first | (with_reducible first | exact HB.out | apply below_alloc | apply pw_below_drewN | apply below_drew1) | exact HB.out)) hb); have n1_ := Aside0.mk (hbox); have n2_ := Aside0.mk ((by rw [hg]; exact (below_size (by repeat (first | (with_reducible first | exact HB.out | apply below_alloc | apply pw_below_drewN | apply below_drew1) | exact HB.out))) : w.heap.size ≤ gb360)); have n3_ := Aside0.mk ((by rw [hg]; exact (below_size (by repeat (first | (with_reducible first | exact HB.out | apply below_alloc | apply pw_below_drewN | apply below_drew1) | exact HB.out))) : w.heap.size ≤ gb360)); clear HB; have HB := n0_; have BK360 := n1_; have GW360 := n2_; have GE360 := n3_; clear n0_ n1_ n2_ n3_; clear hb hbox hg; have hcz5_0 : w4.cell? ⟨gb360, 0, none⟩ = some (.int .i64 a0_0) := (blk_cell BK360.out 0).trans rfl; have hcz5_1 : w4.cell? ⟨gb360, 1, none⟩ = some (.int .i64 a0_1) := (blk_cell BK360.out 1).trans rfl; have hcz5_2 : w4.cell? ⟨gb360, 2, none⟩ = some (.int .i64 a0_2) := (blk_cell BK360.out 2).trans rfl; have hcz5_3 : w4.cell? ⟨gb360, 3, none⟩ = some (.slice A0_3 l0_3.length c0_3) := (blk_cell BK360.out 3).trans rfl; have hfz5_0 := blk_frozen BK360.out 0; have hfz5_1 := blk_frozen BK360.out 1; have hfz5_2 := blk_frozen BK360.out 2; have hfz5_3 := blk_frozen BK360.out 3) | (go_at_call 58; (with_reducible refine (check_all.calls a0_0 a0_1 a0_2 _ _ l0_3 t361 t364 _ ?side1 ?side2 A3.out).mono ?_); (case side1 => repeat (first | exact (Kd.C_below HR0_3.out HB.out) | (with_reducible refine Kd.C_alloc ?_ _) | (with_reducible refine Kd.C_drewN ?_ _) | (with_reducible refine Kd.C_drew ?_))); (case side2 => exact HC0_3.out); rintro e w6 ⟨v362, rfl, ho0, hb⟩; have n0_ := Aside0.mk (Kd.R_lower ho0 (below_size (by repeat (first | (with_reducible first | exact HB.out | apply below_alloc | apply pw_below_drewN | apply below_drew1 | refine below_set ?_ GE360.out) | exact HB.out)))); have n1_ := Aside0.mk (blk_below (g := gb360) (o := .cells #[.int .i64 a0_0, .int .i64 a0_1, .int .i64 a0_2, .slice A0_3 l0_3.length c0_3] 26 (0, 0)) (by (with_reducible repeat (first | refine blk_drewN ?_ _ | refine blk_drew ?_ | refine blk_alloc ?_ _)); exact BK360.out) hb); have n2_ := Aside0.mk (below_step (by repeat (first | (with_reducible first | exact HB.out | apply below_alloc | apply pw_below_drewN | apply below_drew1 | refine below_set ?_ GE360.out) | exact HB.out)) hb); clear BK360; clear HB; have HO363 := n0_; have BK360 := n1_; have HB := n2_; clear n0_ n1_ n2_; (try clear hb); (try clear hb2); (try clear hk); (try clear hi); (try clear ho0); obtain ⟨Ao7, co7, eo7⟩ := Kd.R_slice HO363.out; subst eo7)))
  go_loopg [6, 18] k (fun kq v6 v18 w' => ∃ (x6_1 : Int) (x18_1 : Int), v6 = .int .i64 x6_1 ∧ v18 = .int .i64 x18_1 ∧ Aside0 (check_Weights.l0 kq a1 x6_1 t361 (t361.length : Int) x18_1 = some (r1, r2)) ∧ Aside0 (kq ≤ k) ∧ Aside0 (Kd.R k96 96 w' w.heap.size (fun _ => True) (.slice Ao7 t361.length co7) t361) ∧ Aside0 (w'.heap[gb360]? = some (.cells #[.int .i64 a0_0, .int .i64 a0_1, .int .i64 a0_2, (.slice A0_3 l0_3.length c0_3)] 26 (0, 0))) ∧ Aside0 (Below w.heap.size w w'))
  case atStart => exact ⟨(0), (0), (by first | rfl | (simp; done) | (simp [*]; done)), (by first | rfl | (simp; done) | (simp [*]; done)), H', ⟨Nat.le_refl _⟩, ⟨by (with_reducible repeat (first | apply Kd.R_alloc | apply Kd.R_drewN | apply Kd.R_drew)); exact HO363.out⟩, ⟨by (with_reducible repeat (first | refine blk_drewN ?_ _ | refine blk_drew ?_ | refine blk_alloc ?_ _)); exact BK360.out⟩, ⟨by repeat (first | (with_reducible first | exact HB.out | apply below_alloc | apply pw_below_drewN | apply below_drew1 | refine below_set ?_ GE360.out) | exact HB.out)⟩⟩
  case round =>
    clear H'
    try clear p2
    try clear hcz5_0
    try clear hcz5_1
    try clear hcz5_2
    try clear hcz5_3
    try clear hfz5_0
    try clear hfz5_1
    try clear hfz5_2
    try clear hfz5_3
    obtain ⟨x6_1, x18_1, rfl, rfl, HA, HK1, HO_16, BK360, HB⟩ := hrel
    cases gk with
    | zero => exact absurd HA.out (by simp [check_Weights.l0])
    | succ k1 =>
      have H := HA.out
      clear HA
      simp only [check_Weights.l0] at H
      by_cases c8 : x18_1 < (t361.length : Int)
      · rw [if_pos c8] at H
        have c8b0 : decide (x18_1 < (t361.length : Int)) = true := decide_eq_true c8
        clear c8
        by_cases c9 : 0 ≤ x18_1
        · rw [if_pos c9] at H
          have c9b0 : decide (0 ≤ x18_1) = true := decide_eq_true c9
          clear c9
          by_cases c10 : x18_1 < (t361.length : Int)
          · rw [if_pos c10] at H
            have c10b0 : decide (x18_1 < (t361.length : Int)) = true := decide_eq_true c10
            clear c10
            by_cases c11 : x18_1 = a1
            · rw [if_pos c11] at H
              have c11b0 : (x18_1 == a1) = true := beq_iff_eq.mpr c11
              have c11b1 : (x18_1 != a1) = false := bne_eq_false_iff_eq.mpr c11
              clear c11
              simp only [Option.some.injEq, Prod.mk.injEq] at H
              obtain ⟨rfl, rfl⟩ := H
              have p365 : 0 ≤ (x18_1 : Int) := of_decide_eq_true (by first | (with_reducible assumption) | assumption)
              have q365 : x18_1 < (t361.length : Int) := of_decide_eq_true (by first | (with_reducible assumption) | assumption)
              obtain ⟨ad365, e365, hx365_0, hx365_1, hx365_2, hx365_3, hx365_4, hx365_5, hx365_6, hx365_7, hx365_8, hx365_9, hx365_10, hx365_11⟩ := at_T96 (Kd.R_reads' HO_16.out).2.2 x18_1 p365 q365
              cases e365
              replace p365 := eq_true p365
              replace q365 := eq_true q365
              go_wp2_with (first | ((with_reducible refine gate_dst (N := 10) rfl ?_); refine box_event ?hg (N := 10) ?hd (cs := #[.int .i64 0, .int .i64 0, .int .i64 0, .int .i64 0, .int .i64 0, .int .i64 0, .int .i64 0, .int .i64 0, .int .i64 0, .int .i64 0, .int .i64 0, .int .i64 0]) (t := 96) ?hr ?_; (case hd => rfl); (case hg => rfl); (case hr => first | (go_simp; done) | (go_simp; rfl)); intro gb366 hg w12 hbox hb; have n0_ := Aside0.mk (Kd.R_below (Kd.R_elderB (by (with_reducible repeat (first | apply Kd.R_alloc | apply Kd.R_drewN | apply Kd.R_drew)); exact HO_16.out) gb366 (Nat.le_of_eq hg.symm)) hb); have n1_ := Aside0.mk (blk_below (g := gb360) (o := .cells #[.int .i64 a0_0, .int .i64 a0_1, .int .i64 a0_2, .slice A0_3 l0_3.length c0_3] 26 (0, 0)) (by (with_reducible repeat (first | refine blk_drewN ?_ _ | refine blk_drew ?_ | refine blk_alloc ?_ _)); exact BK360.out) hb); have n2_ := Aside0.mk (below_step (by repeat (first | (with_reducible first | exact HB.out | apply below_alloc | apply pw_below_drewN | apply below_drew1 | refine below_set ?_ GE360.out) | exact HB.out)) hb); have n3_ := Aside0.mk (hbox); have n4_ := Aside0.mk ((by rw [hg]; exact (below_size (by repeat (first | (with_reducible first | exact HB.out | apply below_alloc | apply pw_below_drewN | apply below_drew1 | refine below_set ?_ GE360.out) | exact HB.out))) : w.heap.size ≤ gb366)); have n5_ := Aside0.mk ((by rw [hg]; exact (below_size (by repeat (first | (with_reducible first | exact HB.out | apply below_alloc | apply pw_below_drewN | apply below_drew1 | refine below_set ?_ GE360.out) | exact HB.out))) : w.heap.size ≤ gb366)); have n6_ := Aside0.mk ((by rw [hg]; exact Nat.ne_of_lt (blk_lt (g := gb360) (o := .cells #[.int .i64 a0_0, .int .i64 a0_1, .int .i64 a0_2, .slice A0_3 l0_3.length c0_3] 26 (0, 0)) (by (with_reducible repeat (first | refine blk_drewN ?_ _ | refine blk_drew ?_ | refine blk_alloc ?_ _)); exact BK360.out)) : gb360 ≠ gb366)); have n7_ := Aside0.mk ((by rw [hg]; exact Nat.ne_of_gt (blk_lt (g := gb360) (o := .cells #[.int .i64 a0_0, .int .i64 a0_1, .int .i64 a0_2, .slice A0_3 l0_3.length c0_3] 26 (0, 0)) (by (with_reducible repeat (first | refine blk_drewN ?_ _ | refine blk_drew ?_ | refine blk_alloc ?_ _)); exact BK360.out)) : gb366 ≠ gb360)); clear HO_16; clear BK360; clear HB; have HO_16 := n0_; have BK360 := n1_; have HB := n2_; have BK366 := n3_; have GW366 := n4_; have GE366 := n5_; have NB360_366 := n6_; have NB366_360 := n7_; clear n0_ n1_ n2_ n3_ n4_ n5_ n6_ n7_; clear hb hbox hg; have hnb13 := NB366_360.out; have hnc13 := NB360_366.out; have hcz14_0 : w12.cell? ⟨gb366, 0, none⟩ = some (.int .i64 0) := (blk_cell BK366.out 0).trans rfl; have hcz14_1 : w12.cell? ⟨gb366, 1, none⟩ = some (.int .i64 0) := (blk_cell BK366.out 1).trans rfl; have hcz14_2 : w12.cell? ⟨gb366, 2, none⟩ = some (.int .i64 0) := (blk_cell BK366.out 2).trans rfl; have hcz14_3 : w12.cell? ⟨gb366, 3, none⟩ = some (.int .i64 0) := (blk_cell BK366.out 3).trans rfl; have hcz14_4 : w12.cell? ⟨gb366, 4, none⟩ = some (.int .i64 0) := (blk_cell BK366.out 4).trans rfl; have hcz14_5 : w12.cell? ⟨gb366, 5, none⟩ = some (.int .i64 0) := (blk_cell BK366.out 5).trans rfl; have hcz14_6 : w12.cell? ⟨gb366, 6, none⟩ = some (.int .i64 0) := (blk_cell BK366.out 6).trans rfl; have hcz14_7 : w12.cell? ⟨gb366, 7, none⟩ = some (.int .i64 0) := (blk_cell BK366.out 7).trans rfl; have hcz14_8 : w12.cell? ⟨gb366, 8, none⟩ = some (.int .i64 0) := (blk_cell BK366.out 8).trans rfl; have hcz14_9 : w12.cell? ⟨gb366, 9, none⟩ = some (.int .i64 0) := (blk_cell BK366.out 9).trans rfl; have hcz14_10 : w12.cell? ⟨gb366, 10, none⟩ = some (.int .i64 0) := (blk_cell BK366.out 10).trans rfl; have hcz14_11 : w12.cell? ⟨gb366, 11, none⟩ = some (.int .i64 0) := (blk_cell BK366.out 11).trans rfl; have hfz14_0 := blk_frozen BK366.out 0; have hfz14_1 := blk_frozen BK366.out 1; have hfz14_2 := blk_frozen BK366.out 2; have hfz14_3 := blk_frozen BK366.out 3; have hfz14_4 := blk_frozen BK366.out 4; have hfz14_5 := blk_frozen BK366.out 5; have hfz14_6 := blk_frozen BK366.out 6; have hfz14_7 := blk_frozen BK366.out 7; have hfz14_8 := blk_frozen BK366.out 8; have hfz14_9 := blk_frozen BK366.out 9; have hfz14_10 := blk_frozen BK366.out 10; have hfz14_11 := blk_frozen BK366.out 11))
              repeat (go_quiet (first | ((with_reducible refine gate_dst (N := 10) rfl ?_); refine box_event ?hg (N := 10) ?hd (cs := #[.int .i64 0, .int .i64 0, .int .i64 0, .int .i64 0, .int .i64 0, .int .i64 0, .int .i64 0, .int .i64 0, .int .i64 0, .int .i64 0, .int .i64 0, .int .i64 0]) (t := 96) ?hr ?_; (case hd => rfl); (case hg => rfl); (case hr => first | (go_simp; done) | (go_simp; rfl)); intro gb366 hg w12 hbox hb; have n0_ := Aside0.mk (Kd.R_below (Kd.R_elderB (by (with_reducible repeat (first | apply Kd.R_alloc | apply Kd.R_drewN | apply Kd.R_drew)); exact HO_16.out) gb366 (Nat.le_of_eq hg.symm)) hb); have n1_ := Aside0.mk (blk_below (g := gb360) (o := .cells #[.int .i64 a0_0, .int .i64 a0_1, .int .i64 a0_2, .slice A0_3 l0_3.length c0_3] 26 (0, 0)) (by (with_reducible repeat (first | refine blk_drewN ?_ _ | refine blk_drew ?_ | refine blk_alloc ?_ _)); exact BK360.out) hb); have n2_ := Aside0.mk (below_step (by repeat (first | (with_reducible first | exact HB.out | apply below_alloc | apply pw_below_drewN | apply below_drew1 | refine below_set ?_ GE360.out) | exact HB.out)) hb); have n3_ := Aside0.mk (hbox); have n4_ := Aside0.mk ((by rw [hg]; exact (below_size (by repeat (first | (with_reducible first | exact HB.out | apply below_alloc | apply pw_below_drewN | apply below_drew1 | refine below_set ?_ GE360.out) | exact HB.out))) : w.heap.size ≤ gb366)); have n5_ := Aside0.mk ((by rw [hg]; exact (below_size (by repeat (first | (with_reducible first | exact HB.out | apply below_alloc | apply pw_below_drewN | apply below_drew1 | refine below_set ?_ GE360.out) | exact HB.out))) : w.heap.size ≤ gb366)); have n6_ := Aside0.mk ((by rw [hg]; exact Nat.ne_of_lt (blk_lt (g := gb360) (o := .cells #[.int .i64 a0_0, .int .i64 a0_1, .int .i64 a0_2, .slice A0_3 l0_3.length c0_3] 26 (0, 0)) (by (with_reducible repeat (first | refine blk_drewN ?_ _ | refine blk_drew ?_ | refine blk_alloc ?_ _)); exact BK360.out)) : gb360 ≠ gb366)); have n7_ := Aside0.mk ((by rw [hg]; exact Nat.ne_of_gt (blk_lt (g := gb360) (o := .cells #[.int .i64 a0_0, .int .i64 a0_1, .int .i64 a0_2, .slice A0_3 l0_3.length c0_3] 26 (0, 0)) (by (with_reducible repeat (first | refine blk_drewN ?_ _ | refine blk_drew ?_ | refine blk_alloc ?_ _)); exact BK360.out)) : gb366 ≠ gb360)); clear HO_16; clear BK360; clear HB; have HO_16 := n0_; have BK360 := n1_; have HB := n2_; have BK366 := n3_; have GW366 := n4_; have GE366 := n5_; have NB360_366 := n6_; have NB366_360 := n7_; clear n0_ n1_ n2_ n3_ n4_ n5_ n6_ n7_; clear hb hbox hg; have hnb13 := NB366_360.out; have hnc13 := NB360_366.out; have hcz14_0 : w12.cell? ⟨gb366, 0, none⟩ = some (.int .i64 0) := (blk_cell BK366.out 0).trans rfl; have hcz14_1 : w12.cell? ⟨gb366, 1, none⟩ = some (.int .i64 0) := (blk_cell BK366.out 1).trans rfl; have hcz14_2 : w12.cell? ⟨gb366, 2, none⟩ = some (.int .i64 0) := (blk_cell BK366.out 2).trans rfl; have hcz14_3 : w12.cell? ⟨gb366, 3, none⟩ = some (.int .i64 0) := (blk_cell BK366.out 3).trans rfl; have hcz14_4 : w12.cell? ⟨gb366, 4, none⟩ = some (.int .i64 0) := (blk_cell BK366.out 4).trans rfl; have hcz14_5 : w12.cell? ⟨gb366, 5, none⟩ = some (.int .i64 0) := (blk_cell BK366.out 5).trans rfl; have hcz14_6 : w12.cell? ⟨gb366, 6, none⟩ = some (.int .i64 0) := (blk_cell BK366.out 6).trans rfl; have hcz14_7 : w12.cell? ⟨gb366, 7, none⟩ = some (.int .i64 0) := (blk_cell BK366.out 7).trans rfl; have hcz14_8 : w12.cell? ⟨gb366, 8, none⟩ = some (.int .i64 0) := (blk_cell BK366.out 8).trans rfl; have hcz14_9 : w12.cell? ⟨gb366, 9, none⟩ = some (.int .i64 0) := (blk_cell BK366.out 9).trans rfl; have hcz14_10 : w12.cell? ⟨gb366, 10, none⟩ = some (.int .i64 0) := (blk_cell BK366.out 10).trans rfl; have hcz14_11 : w12.cell? ⟨gb366, 11, none⟩ = some (.int .i64 0) := (blk_cell BK366.out 11).trans rfl; have hfz14_0 := blk_frozen BK366.out 0; have hfz14_1 := blk_frozen BK366.out 1; have hfz14_2 := blk_frozen BK366.out 2; have hfz14_3 := blk_frozen BK366.out 3; have hfz14_4 := blk_frozen BK366.out 4; have hfz14_5 := blk_frozen BK366.out 5; have hfz14_6 := blk_frozen BK366.out 6; have hfz14_7 := blk_frozen BK366.out 7; have hfz14_8 := blk_frozen BK366.out 8; have hfz14_9 := blk_frozen BK366.out 9; have hfz14_10 := blk_frozen BK366.out 10; have hfz14_11 := blk_frozen BK366.out 11)); try go_wp2_with (first | ((with_reducible refine gate_dst (N := 10) rfl ?_); refine box_event ?hg (N := 10) ?hd (cs := #[.int .i64 0, .int .i64 0, .int .i64 0, .int .i64 0, .int .i64 0, .int .i64 0, .int .i64 0, .int .i64 0, .int .i64 0, .int .i64 0, .int .i64 0, .int .i64 0]) (t := 96) ?hr ?_; (case hd => rfl); (case hg => rfl); (case hr => first | (go_simp; done) | (go_simp; rfl)); intro gb366 hg w12 hbox hb; have n0_ := Aside0.mk (Kd.R_below (Kd.R_elderB (by (with_reducible repeat (first | apply Kd.R_alloc | apply Kd.R_drewN | apply Kd.R_drew)); exact HO_16.out) gb366 (Nat.le_of_eq hg.symm)) hb); have n1_ := Aside0.mk (blk_below (g := gb360) (o := .cells #[.int .i64 a0_0, .int .i64 a0_1, .int .i64 a0_2, .slice A0_3 l0_3.length c0_3] 26 (0, 0)) (by (with_reducible repeat (first | refine blk_drewN ?_ _ | refine blk_drew ?_ | refine blk_alloc ?_ _)); exact BK360.out) hb); have n2_ := Aside0.mk (below_step (by repeat (first | (with_reducible first | exact HB.out | apply below_alloc | apply pw_below_drewN | apply below_drew1 | refine below_set ?_ GE360.out) | exact HB.out)) hb); have n3_ := Aside0.mk (hbox); have n4_ := Aside0.mk ((by rw [hg]; exact (below_size (by repeat (first | (with_reducible first | exact HB.out | apply below_alloc | apply pw_below_drewN | apply below_drew1 | refine below_set ?_ GE360.out) | exact HB.out))) : w.heap.size ≤ gb366)); have n5_ := Aside0.mk ((by rw [hg]; exact (below_size (by repeat (first | (with_reducible first | exact HB.out | apply below_alloc | apply pw_below_drewN | apply below_drew1 | refine below_set ?_ GE360.out) | exact HB.out))) : w.heap.size ≤ gb366)); have n6_ := Aside0.mk ((by rw [hg]; exact Nat.ne_of_lt (blk_lt (g := gb360) (o := .cells #[.int .i64 a0_0, .int .i64 a0_1, .int .i64 a0_2, .slice A0_3 l0_3.length c0_3] 26 (0, 0)) (by (with_reducible repeat (first | refine blk_drewN ?_ _ | refine blk_drew ?_ | refine blk_alloc ?_ _)); exact BK360.out)) : gb360 ≠ gb366)); have n7_ := Aside0.mk ((by rw [hg]; exact Nat.ne_of_gt (blk_lt (g := gb360) (o := .cells #[.int .i64 a0_0, .int .i64 a0_1, .int .i64 a0_2, .slice A0_3 l0_3.length c0_3] 26 (0, 0)) (by (with_reducible repeat (first | refine blk_drewN ?_ _ | refine blk_drew ?_ | refine blk_alloc ?_ _)); exact BK360.out)) : gb366 ≠ gb360)); clear HO_16; clear BK360; clear HB; have HO_16 := n0_; have BK360 := n1_; have HB := n2_; have BK366 := n3_; have GW366 := n4_; have GE366 := n5_; have NB360_366 := n6_; have NB366_360 := n7_; clear n0_ n1_ n2_ n3_ n4_ n5_ n6_ n7_; clear hb hbox hg; have hnb13 := NB366_360.out; have hnc13 := NB360_366.out; have hcz14_0 : w12.cell? ⟨gb366, 0, none⟩ = some (.int .i64 0) := (blk_cell BK366.out 0).trans rfl; have hcz14_1 : w12.cell? ⟨gb366, 1, none⟩ = some (.int .i64 0) := (blk_cell BK366.out 1).trans rfl; have hcz14_2 : w12.cell? ⟨gb366, 2, none⟩ = some (.int .i64 0) := (blk_cell BK366.out 2).trans rfl; have hcz14_3 : w12.cell? ⟨gb366, 3, none⟩ = some (.int .i64 0) := (blk_cell BK366.out 3).trans rfl; have hcz14_4 : w12.cell? ⟨gb366, 4, none⟩ = some (.int .i64 0) := (blk_cell BK366.out 4).trans rfl; have hcz14_5 : w12.cell? ⟨gb366, 5, none⟩ = some (.int .i64 0) := (blk_cell BK366.out 5).trans rfl; have hcz14_6 : w12.cell? ⟨gb366, 6, none⟩ = some (.int .i64 0) := (blk_cell BK366.out 6).trans rfl; have hcz14_7 : w12.cell? ⟨gb366, 7, none⟩ = some (.int .i64 0) := (blk_cell BK366.out 7).trans rfl; have hcz14_8 : w12.cell? ⟨gb366, 8, none⟩ = some (.int .i64 0) := (blk_cell BK366.out 8).trans rfl; have hcz14_9 : w12.cell? ⟨gb366, 9, none⟩ = some (.int .i64 0) := (blk_cell BK366.out 9).trans rfl; have hcz14_10 : w12.cell? ⟨gb366, 10, none⟩ = some (.int .i64 0) := (blk_cell BK366.out 10).trans rfl; have hcz14_11 : w12.cell? ⟨gb366, 11, none⟩ = some (.int .i64 0) := (blk_cell BK366.out 11).trans rfl; have hfz14_0 := blk_frozen BK366.out 0; have hfz14_1 := blk_frozen BK366.out 1; have hfz14_2 := blk_frozen BK366.out 2; have hfz14_3 := blk_frozen BK366.out 3; have hfz14_4 := blk_frozen BK366.out 4; have hfz14_5 := blk_frozen BK366.out 5; have hfz14_6 := blk_frozen BK366.out 6; have hfz14_7 := blk_frozen BK366.out 7; have hfz14_8 := blk_frozen BK366.out 8; have hfz14_9 := blk_frozen BK366.out 9; have hfz14_10 := blk_frozen BK366.out 10; have hfz14_11 := blk_frozen BK366.out 11)))
              go_ret2
              exact ⟨by first | rfl | (simp [errW_none, errW_some] <;> rfl) | (simp [*, errW_none, errW_some] <;> rfl), by repeat (first | (with_reducible first | exact HB.out | apply below_alloc | apply pw_below_drewN | apply below_drew1 | refine below_set ?_ GE360.out | refine below_set ?_ GE366.out) | exact HB.out)⟩
            · rw [if_neg c11] at H
              have c11b0 : (x18_1 == a1) = false := beq_eq_false_iff_ne.mpr c11
              have c11b1 : (x18_1 != a1) = true := bne_iff_ne.mpr c11
              have H' := Aside0.mk H
              clear H
              have p365 : 0 ≤ (x18_1 : Int) := of_decide_eq_true (by first | (with_reducible assumption) | assumption)
              have q365 : x18_1 < (t361.length : Int) := of_decide_eq_true (by first | (with_reducible assumption) | assumption)
              obtain ⟨ad365, e365, hx365_0, hx365_1, hx365_2, hx365_3, hx365_4, hx365_5, hx365_6, hx365_7, hx365_8, hx365_9, hx365_10, hx365_11⟩ := at_T96 (Kd.R_reads' HO_16.out).2.2 x18_1 p365 q365
              cases e365
              replace p365 := eq_true p365
              replace q365 := eq_true q365
              go_wp2_with (first | ((with_reducible refine gate_dst (N := 10) rfl ?_); refine box_event ?hg (N := 10) ?hd (cs := #[.int .i64 0, .int .i64 0, .int .i64 0, .int .i64 0, .int .i64 0, .int .i64 0, .int .i64 0, .int .i64 0, .int .i64 0, .int .i64 0, .int .i64 0, .int .i64 0]) (t := 96) ?hr ?_; (case hd => rfl); (case hg => rfl); (case hr => first | (go_simp; done) | (go_simp; rfl)); intro gb366 hg w15 hbox hb; have n0_ := Aside0.mk (Kd.R_below (Kd.R_elderB (by (with_reducible repeat (first | apply Kd.R_alloc | apply Kd.R_drewN | apply Kd.R_drew)); exact HO_16.out) gb366 (Nat.le_of_eq hg.symm)) hb); have n1_ := Aside0.mk (blk_below (g := gb360) (o := .cells #[.int .i64 a0_0, .int .i64 a0_1, .int .i64 a0_2, .slice A0_3 l0_3.length c0_3] 26 (0, 0)) (by (with_reducible repeat (first | refine blk_drewN ?_ _ | refine blk_drew ?_ | refine blk_alloc ?_ _)); exact BK360.out) hb); have n2_ := Aside0.mk (below_step (by repeat (first | (with_reducible first | exact HB.out | apply below_alloc | apply pw_below_drewN | apply below_drew1 | refine below_set ?_ GE360.out) | exact HB.out)) hb); have n3_ := Aside0.mk (hbox); have n4_ := Aside0.mk ((by rw [hg]; exact (below_size (by repeat (first | (with_reducible first | exact HB.out | apply below_alloc | apply pw_below_drewN | apply below_drew1 | refine below_set ?_ GE360.out) | exact HB.out))) : w.heap.size ≤ gb366)); have n5_ := Aside0.mk ((by rw [hg]; exact (below_size (by repeat (first | (with_reducible first | exact HB.out | apply below_alloc | apply pw_below_drewN | apply below_drew1 | refine below_set ?_ GE360.out) | exact HB.out))) : w.heap.size ≤ gb366)); have n6_ := Aside0.mk ((by rw [hg]; exact Nat.ne_of_lt (blk_lt (g := gb360) (o := .cells #[.int .i64 a0_0, .int .i64 a0_1, .int .i64 a0_2, .slice A0_3 l0_3.length c0_3] 26 (0, 0)) (by (with_reducible repeat (first | refine blk_drewN ?_ _ | refine blk_drew ?_ | refine blk_alloc ?_ _)); exact BK360.out)) : gb360 ≠ gb366)); have n7_ := Aside0.mk ((by rw [hg]; exact Nat.ne_of_gt (blk_lt (g := gb360) (o := .cells #[.int .i64 a0_0, .int .i64 a0_1, .int .i64 a0_2, .slice A0_3 l0_3.length c0_3] 26 (0, 0)) (by (with_reducible repeat (first | refine blk_drewN ?_ _ | refine blk_drew ?_ | refine blk_alloc ?_ _)); exact BK360.out)) : gb366 ≠ gb360)); clear HO_16; clear BK360; clear HB; have HO_16 := n0_; have BK360 := n1_; have HB := n2_; have BK366 := n3_; have GW366 := n4_; have GE366 := n5_; have NB360_366 := n6_; have NB366_360 := n7_; clear n0_ n1_ n2_ n3_ n4_ n5_ n6_ n7_; clear hb hbox hg; have hnb16 := NB366_360.out; have hnc16 := NB360_366.out; have hcz17_0 : w15.cell? ⟨gb366, 0, none⟩ = some (.int .i64 0) := (blk_cell BK366.out 0).trans rfl; have hcz17_1 : w15.cell? ⟨gb366, 1, none⟩ = some (.int .i64 0) := (blk_cell BK366.out 1).trans rfl; have hcz17_2 : w15.cell? ⟨gb366, 2, none⟩ = some (.int .i64 0) := (blk_cell BK366.out 2).trans rfl; have hcz17_3 : w15.cell? ⟨gb366, 3, none⟩ = some (.int .i64 0) := (blk_cell BK366.out 3).trans rfl; have hcz17_4 : w15.cell? ⟨gb366, 4, none⟩ = some (.int .i64 0) := (blk_cell BK366.out 4).trans rfl; have hcz17_5 : w15.cell? ⟨gb366, 5, none⟩ = some (.int .i64 0) := (blk_cell BK366.out 5).trans rfl; have hcz17_6 : w15.cell? ⟨gb366, 6, none⟩ = some (.int .i64 0) := (blk_cell BK366.out 6).trans rfl; have hcz17_7 : w15.cell? ⟨gb366, 7, none⟩ = some (.int .i64 0) := (blk_cell BK366.out 7).trans rfl; have hcz17_8 : w15.cell? ⟨gb366, 8, none⟩ = some (.int .i64 0) := (blk_cell BK366.out 8).trans rfl; have hcz17_9 : w15.cell? ⟨gb366, 9, none⟩ = some (.int .i64 0) := (blk_cell BK366.out 9).trans rfl; have hcz17_10 : w15.cell? ⟨gb366, 10, none⟩ = some (.int .i64 0) := (blk_cell BK366.out 10).trans rfl; have hcz17_11 : w15.cell? ⟨gb366, 11, none⟩ = some (.int .i64 0) := (blk_cell BK366.out 11).trans rfl; have hfz17_0 := blk_frozen BK366.out 0; have hfz17_1 := blk_frozen BK366.out 1; have hfz17_2 := blk_frozen BK366.out 2; have hfz17_3 := blk_frozen BK366.out 3; have hfz17_4 := blk_frozen BK366.out 4; have hfz17_5 := blk_frozen BK366.out 5; have hfz17_6 := blk_frozen BK366.out 6; have hfz17_7 := blk_frozen BK366.out 7; have hfz17_8 := blk_frozen BK366.out 8; have hfz17_9 := blk_frozen BK366.out 9; have hfz17_10 := blk_frozen BK366.out 10; have hfz17_11 := blk_frozen BK366.out 11))
              repeat (go_quiet (first | ((with_reducible refine gate_dst (N := 10) rfl ?_); refine box_event ?hg (N := 10) ?hd (cs := #[.int .i64 0, .int .i64 0, .int .i64 0, .int .i64 0, .int .i64 0, .int .i64 0, .int .i64 0, .int .i64 0, .int .i64 0, .int .i64 0, .int .i64 0, .int .i64 0]) (t := 96) ?hr ?_; (case hd => rfl); (case hg => rfl); (case hr => first | (go_simp; done) | (go_simp; rfl)); intro gb366 hg w15 hbox hb; have n0_ := Aside0.mk (Kd.R_below (Kd.R_elderB (by (with_reducible repeat (first | apply Kd.R_alloc | apply Kd.R_drewN | apply Kd.R_drew)); exact HO_16.out) gb366 (Nat.le_of_eq hg.symm)) hb); have n1_ := Aside0.mk (blk_below (g := gb360) (o := .cells #[.int .i64 a0_0, .int .i64 a0_1, .int .i64 a0_2, .slice A0_3 l0_3.length c0_3] 26 (0, 0)) (by (with_reducible repeat (first | refine blk_drewN ?_ _ | refine blk_drew ?_ | refine blk_alloc ?_ _)); exact BK360.out) hb); have n2_ := Aside0.mk (below_step (by repeat (first | (with_reducible first | exact HB.out | apply below_alloc | apply pw_below_drewN | apply below_drew1 | refine below_set ?_ GE360.out) | exact HB.out)) hb); have n3_ := Aside0.mk (hbox); have n4_ := Aside0.mk ((by rw [hg]; exact (below_size (by repeat (first | (with_reducible first | exact HB.out | apply below_alloc | apply pw_below_drewN | apply below_drew1 | refine below_set ?_ GE360.out) | exact HB.out))) : w.heap.size ≤ gb366)); have n5_ := Aside0.mk ((by rw [hg]; exact (below_size (by repeat (first | (with_reducible first | exact HB.out | apply below_alloc | apply pw_below_drewN | apply below_drew1 | refine below_set ?_ GE360.out) | exact HB.out))) : w.heap.size ≤ gb366)); have n6_ := Aside0.mk ((by rw [hg]; exact Nat.ne_of_lt (blk_lt (g := gb360) (o := .cells #[.int .i64 a0_0, .int .i64 a0_1, .int .i64 a0_2, .slice A0_3 l0_3.length c0_3] 26 (0, 0)) (by (with_reducible repeat (first | refine blk_drewN ?_ _ | refine blk_drew ?_ | refine blk_alloc ?_ _)); exact BK360.out)) : gb360 ≠ gb366)); have n7_ := Aside0.mk ((by rw [hg]; exact Nat.ne_of_gt (blk_lt (g := gb360) (o := .cells #[.int .i64 a0_0, .int .i64 a0_1, .int .i64 a0_2, .slice A0_3 l0_3.length c0_3] 26 (0, 0)) (by (with_reducible repeat (first | refine blk_drewN ?_ _ | refine blk_drew ?_ | refine blk_alloc ?_ _)); exact BK360.out)) : gb366 ≠ gb360)); clear HO_16; clear BK360; clear HB; have HO_16 := n0_; have BK360 := n1_; have HB := n2_; have BK366 := n3_; have GW366 := n4_; have GE366 := n5_; have NB360_366 := n6_; have NB366_360 := n7_; clear n0_ n1_ n2_ n3_ n4_ n5_ n6_ n7_; clear hb hbox hg; have hnb16 := NB366_360.out; have hnc16 := NB360_366.out; have hcz17_0 : w15.cell? ⟨gb366, 0, none⟩ = some (.int .i64 0) := (blk_cell BK366.out 0).trans rfl; have hcz17_1 : w15.cell? ⟨gb366, 1, none⟩ = some (.int .i64 0) := (blk_cell BK366.out 1).trans rfl; have hcz17_2 : w15.cell? ⟨gb366, 2, none⟩ = some (.int .i64 0) := (blk_cell BK366.out 2).trans rfl; have hcz17_3 : w15.cell? ⟨gb366, 3, none⟩ = some (.int .i64 0) := (blk_cell BK366.out 3).trans rfl; have hcz17_4 : w15.cell? ⟨gb366, 4, none⟩ = some (.int .i64 0) := (blk_cell BK366.out 4).trans rfl; have hcz17_5 : w15.cell? ⟨gb366, 5, none⟩ = some (.int .i64 0) := (blk_cell BK366.out 5).trans rfl; have hcz17_6 : w15.cell? ⟨gb366, 6, none⟩ = some (.int .i64 0) := (blk_cell BK366.out 6).trans rfl; have hcz17_7 : w15.cell? ⟨gb366, 7, none⟩ = some (.int .i64 0) := (blk_cell BK366.out 7).trans rfl; have hcz17_8 : w15.cell? ⟨gb366, 8, none⟩ = some (.int .i64 0) := (blk_cell BK366.out 8).trans rfl; have hcz17_9 : w15.cell? ⟨gb366, 9, none⟩ = some (.int .i64 0) := (blk_cell BK366.out 9).trans rfl; have hcz17_10 : w15.cell? ⟨gb366, 10, none⟩ = some (.int .i64 0) := (blk_cell BK366.out 10).trans rfl; have hcz17_11 : w15.cell? ⟨gb366, 11, none⟩ = some (.int .i64 0) := (blk_cell BK366.out 11).trans rfl; have hfz17_0 := blk_frozen BK366.out 0; have hfz17_1 := blk_frozen BK366.out 1; have hfz17_2 := blk_frozen BK366.out 2; have hfz17_3 := blk_frozen BK366.out 3; have hfz17_4 := blk_frozen BK366.out 4; have hfz17_5 := blk_frozen BK366.out 5; have hfz17_6 := blk_frozen BK366.out 6; have hfz17_7 := blk_frozen BK366.out 7; have hfz17_8 := blk_frozen BK366.out 8; have hfz17_9 := blk_frozen BK366.out 9; have hfz17_10 := blk_frozen BK366.out 10; have hfz17_11 := blk_frozen BK366.out 11)); try go_wp2_with (first | ((with_reducible refine gate_dst (N := 10) rfl ?_); refine box_event ?hg (N := 10) ?hd (cs := #[.int .i64 0, .int .i64 0, .int .i64 0, .int .i64 0, .int .i64 0, .int .i64 0, .int .i64 0, .int .i64 0, .int .i64 0, .int .i64 0, .int .i64 0, .int .i64 0]) (t := 96) ?hr ?_; (case hd => rfl); (case hg => rfl); (case hr => first | (go_simp; done) | (go_simp; rfl)); intro gb366 hg w15 hbox hb; have n0_ := Aside0.mk (Kd.R_below (Kd.R_elderB (by (with_reducible repeat (first | apply Kd.R_alloc | apply Kd.R_drewN | apply Kd.R_drew)); exact HO_16.out) gb366 (Nat.le_of_eq hg.symm)) hb); have n1_ := Aside0.mk (blk_below (g := gb360) (o := .cells #[.int .i64 a0_0, .int .i64 a0_1, .int .i64 a0_2, .slice A0_3 l0_3.length c0_3] 26 (0, 0)) (by (with_reducible repeat (first | refine blk_drewN ?_ _ | refine blk_drew ?_ | refine blk_alloc ?_ _)); exact BK360.out) hb); have n2_ := Aside0.mk (below_step (by repeat (first | (with_reducible first | exact HB.out | apply below_alloc | apply pw_below_drewN | apply below_drew1 | refine below_set ?_ GE360.out) | exact HB.out)) hb); have n3_ := Aside0.mk (hbox); have n4_ := Aside0.mk ((by rw [hg]; exact (below_size (by repeat (first | (with_reducible first | exact HB.out | apply below_alloc | apply pw_below_drewN | apply below_drew1 | refine below_set ?_ GE360.out) | exact HB.out))) : w.heap.size ≤ gb366)); have n5_ := Aside0.mk ((by rw [hg]; exact (below_size (by repeat (first | (with_reducible first | exact HB.out | apply below_alloc | apply pw_below_drewN | apply below_drew1 | refine below_set ?_ GE360.out) | exact HB.out))) : w.heap.size ≤ gb366)); have n6_ := Aside0.mk ((by rw [hg]; exact Nat.ne_of_lt (blk_lt (g := gb360) (o := .cells #[.int .i64 a0_0, .int .i64 a0_1, .int .i64 a0_2, .slice A0_3 l0_3.length c0_3] 26 (0, 0)) (by (with_reducible repeat (first | refine blk_drewN ?_ _ | refine blk_drew ?_ | refine blk_alloc ?_ _)); exact BK360.out)) : gb360 ≠ gb366)); have n7_ := Aside0.mk ((by rw [hg]; exact Nat.ne_of_gt (blk_lt (g := gb360) (o := .cells #[.int .i64 a0_0, .int .i64 a0_1, .int .i64 a0_2, .slice A0_3 l0_3.length c0_3] 26 (0, 0)) (by (with_reducible repeat (first | refine blk_drewN ?_ _ | refine blk_drew ?_ | refine blk_alloc ?_ _)); exact BK360.out)) : gb366 ≠ gb360)); clear HO_16; clear BK360; clear HB; have HO_16 := n0_; have BK360 := n1_; have HB := n2_; have BK366 := n3_; have GW366 := n4_; have GE366 := n5_; have NB360_366 := n6_; have NB366_360 := n7_; clear n0_ n1_ n2_ n3_ n4_ n5_ n6_ n7_; clear hb hbox hg; have hnb16 := NB366_360.out; have hnc16 := NB360_366.out; have hcz17_0 : w15.cell? ⟨gb366, 0, none⟩ = some (.int .i64 0) := (blk_cell BK366.out 0).trans rfl; have hcz17_1 : w15.cell? ⟨gb366, 1, none⟩ = some (.int .i64 0) := (blk_cell BK366.out 1).trans rfl; have hcz17_2 : w15.cell? ⟨gb366, 2, none⟩ = some (.int .i64 0) := (blk_cell BK366.out 2).trans rfl; have hcz17_3 : w15.cell? ⟨gb366, 3, none⟩ = some (.int .i64 0) := (blk_cell BK366.out 3).trans rfl; have hcz17_4 : w15.cell? ⟨gb366, 4, none⟩ = some (.int .i64 0) := (blk_cell BK366.out 4).trans rfl; have hcz17_5 : w15.cell? ⟨gb366, 5, none⟩ = some (.int .i64 0) := (blk_cell BK366.out 5).trans rfl; have hcz17_6 : w15.cell? ⟨gb366, 6, none⟩ = some (.int .i64 0) := (blk_cell BK366.out 6).trans rfl; have hcz17_7 : w15.cell? ⟨gb366, 7, none⟩ = some (.int .i64 0) := (blk_cell BK366.out 7).trans rfl; have hcz17_8 : w15.cell? ⟨gb366, 8, none⟩ = some (.int .i64 0) := (blk_cell BK366.out 8).trans rfl; have hcz17_9 : w15.cell? ⟨gb366, 9, none⟩ = some (.int .i64 0) := (blk_cell BK366.out 9).trans rfl; have hcz17_10 : w15.cell? ⟨gb366, 10, none⟩ = some (.int .i64 0) := (blk_cell BK366.out 10).trans rfl; have hcz17_11 : w15.cell? ⟨gb366, 11, none⟩ = some (.int .i64 0) := (blk_cell BK366.out 11).trans rfl; have hfz17_0 := blk_frozen BK366.out 0; have hfz17_1 := blk_frozen BK366.out 1; have hfz17_2 := blk_frozen BK366.out 2; have hfz17_3 := blk_frozen BK366.out 3; have hfz17_4 := blk_frozen BK366.out 4; have hfz17_5 := blk_frozen BK366.out 5; have hfz17_6 := blk_frozen BK366.out 6; have hfz17_7 := blk_frozen BK366.out 7; have hfz17_8 := blk_frozen BK366.out 8; have hfz17_9 := blk_frozen BK366.out 9; have hfz17_10 := blk_frozen BK366.out 10; have hfz17_11 := blk_frozen BK366.out 11)))
              go_roundg k1
              case measure => have := HK1.out; omega
              case rel => exact ⟨(wrap64 (x6_1 + ((rd_T96 t361 x18_1).f3))), (wrap64 (x18_1 + 1)), (by first | rfl | (simp; done) | (simp [*]; done)), (by first | rfl | (simp; done) | (simp [*]; done)), H', ⟨by have := HK1.out; omega⟩, ⟨by (with_reducible repeat (first | apply Kd.R_alloc | apply Kd.R_drewN | apply Kd.R_drew)); exact Kd.R_mono (Kd.R_far (p := ⟨gb366, 11, none⟩) (Kd.R_far (p := ⟨gb366, 10, none⟩) (Kd.R_far (p := ⟨gb366, 9, none⟩) (Kd.R_far (p := ⟨gb366, 8, none⟩) (Kd.R_far (p := ⟨gb366, 7, none⟩) (Kd.R_far (p := ⟨gb366, 6, none⟩) (Kd.R_far (p := ⟨gb366, 5, none⟩) (Kd.R_far (p := ⟨gb366, 4, none⟩) (Kd.R_far (p := ⟨gb366, 3, none⟩) (Kd.R_far (p := ⟨gb366, 2, none⟩) (Kd.R_far (p := ⟨gb366, 1, none⟩) (Kd.R_far (p := ⟨gb366, 0, none⟩) (Kd.R_mono HO_16.out (fun k_ hk => (⟨hk, hk.2⟩ : _ ∧ k_ ≠ gb366))) (fun _ hk => hk.2) (.int .i64 ((rd_T96 t361 x18_1).f0.f0))) (fun _ hk => hk.2) (.int .i64 ((rd_T96 t361 x18_1).f0.f1))) (fun _ hk => hk.2) (.int .i64 ((rd_T96 t361 x18_1).f0.f2))) (fun _ hk => hk.2) (.int .i64 ((rd_T96 t361 x18_1).f0.f3))) (fun _ hk => hk.2) (.int .i64 ((rd_T96 t361 x18_1).f1.f0))) (fun _ hk => hk.2) (.int .i64 ((rd_T96 t361 x18_1).f1.f1))) (fun _ hk => hk.2) (.int .i64 ((rd_T96 t361 x18_1).f1.f2))) (fun _ hk => hk.2) (.int .i64 ((rd_T96 t361 x18_1).f2.f0))) (fun _ hk => hk.2) (.int .i64 ((rd_T96 t361 x18_1).f2.f1))) (fun _ hk => hk.2) (.int .i64 ((rd_T96 t361 x18_1).f2.f2))) (fun _ hk => hk.2) (.int .i64 ((rd_T96 t361 x18_1).f3))) (fun _ hk => hk.2) (.int .i64 ((rd_T96 t361 x18_1).f4))) (fun _ hk => trivial)⟩, ⟨by (with_reducible repeat (first | refine blk_drewN ?_ _ | refine blk_drew ?_ | refine blk_alloc ?_ _)); refine blk_far ?_ NB360_366.out _; (with_reducible repeat (first | refine blk_drewN ?_ _ | refine blk_drew ?_ | refine blk_alloc ?_ _)); refine blk_far ?_ NB360_366.out _; (with_reducible repeat (first | refine blk_drewN ?_ _ | refine blk_drew ?_ | refine blk_alloc ?_ _)); refine blk_far ?_ NB360_366.out _; (with_reducible repeat (first | refine blk_drewN ?_ _ | refine blk_drew ?_ | refine blk_alloc ?_ _)); refine blk_far ?_ NB360_366.out _; (with_reducible repeat (first | refine blk_drewN ?_ _ | refine blk_drew ?_ | refine blk_alloc ?_ _)); refine blk_far ?_ NB360_366.out _; (with_reducible repeat (first | refine blk_drewN ?_ _ | refine blk_drew ?_ | refine blk_alloc ?_ _)); refine blk_far ?_ NB360_366.out _; (with_reducible repeat (first | refine blk_drewN ?_ _ | refine blk_drew ?_ | refine blk_alloc ?_ _)); refine blk_far ?_ NB360_366.out _; (with_reducible repeat (first | refine blk_drewN ?_ _ | refine blk_drew ?_ | refine blk_alloc ?_ _)); refine blk_far ?_ NB360_366.out _; (with_reducible repeat (first | refine blk_drewN ?_ _ | refine blk_drew ?_ | refine blk_alloc ?_ _)); refine blk_far ?_ NB360_366.out _; (with_reducible repeat (first | refine blk_drewN ?_ _ | refine blk_drew ?_ | refine blk_alloc ?_ _)); refine blk_far ?_ NB360_366.out _; (with_reducible repeat (first | refine blk_drewN ?_ _ | refine blk_drew ?_ | refine blk_alloc ?_ _)); refine blk_far ?_ NB360_366.out _; (with_reducible repeat (first | refine blk_drewN ?_ _ | refine blk_drew ?_ | refine blk_alloc ?_ _)); refine blk_far ?_ NB360_366.out _; (with_reducible repeat (first | refine blk_drewN ?_ _ | refine blk_drew ?_ | refine blk_alloc ?_ _)); exact BK360.out⟩, ⟨by repeat (first | (with_reducible first | exact HB.out | apply below_alloc | apply pw_below_drewN | apply below_drew1 | refine below_set ?_ GE360.out | refine below_set ?_ GE366.out) | exact HB.out)⟩⟩
          · rw [if_neg c10] at H
            exact absurd H (by simp)
        · rw [if_neg c9] at H
          exact absurd H (by simp)
      · rw [if_neg c8] at H
        have c8b0 : decide (x18_1 < (t361.length : Int)) = false := decide_eq_false c8
        clear c8
        simp only [Option.some.injEq, Prod.mk.injEq] at H
        obtain ⟨rfl, rfl⟩ := H
        go_wp2
        repeat (go_quiet (fail); try go_wp2)
        go_ret2
        exact ⟨by first | rfl | (simp [errW_none, errW_some] <;> rfl) | (simp [*, errW_none, errW_some] <;> rfl), by repeat (first | (with_reducible first | exact HB.out | apply below_alloc | apply pw_below_drewN | apply below_drew1 | refine below_set ?_ GE360.out) | exact HB.out)⟩

end Go.Proofs.Ytjegihodmidhoaa.G
