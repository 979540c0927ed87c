/- Words, contracts and plain laws for this claim, part 1. -/
import Derived.Test.YtcdjhdfjkfbgdaaZ0
import Derived.Test.YtcdjhdfjkfbgdaaProg
import Derived.Shelf.Small.Bits
import Derived.Shelf.Small.Strs
import Derived.Shelf.Strconv.Itoa0
import Derived.Shelf.Slices.Reverse
import Derived.Ground.Names2Prog
import Derived.Shelf.Slices.SearchI
import Derived.Shelf.Slices.Cells
import Derived.Ground.SlsfProg
import Derived.Shelf.SlSortCmp.Insertion
import Derived.Shelf.SlSortCmp.SiftDown1
import Derived.Shelf.SlSortCmp.HeapSort1
import Derived.Shelf.SlSortCmp.Insertion1
import Derived.Shelf.SlSortCmp.Median1
import Derived.Shelf.SlSortCmp.Pivot1
import Derived.Shelf.SlSortCmp.ReverseRange1
import Derived.Shelf.SlSortCmp.PartialInsertion1
import Derived.Shelf.SlSortCmp.PartitionEqual1
import Derived.Shelf.SlSortCmp.Partition1
import Derived.Shelf.SlSortCmp.Pdq1
import Derived.Shelf.SlSortCmp.Whole1
import Derived.Shelf.SlSortCmp.NoneTotal
import Derived.Lib.Bytealg
import Derived.Sort.Grow
set_option linter.unusedVariables false
set_option linter.unusedSimpArgs false
namespace Go.Proofs.Ytcdjhdfjkfbgdaa.PD56
open Go.RowKit Go.Proofs.YtcdjhdfjkfbgdaaW.PrintWords Go.Proofs.YtcdjhdfjkfbgdaaW.PrintLast Go.Proofs.YtcdjhdfjkfbgdaaW.PrintMore
attribute [local go_sem] max2_int min2_int max_two min_two max_three min_three max_four min_four   -- for this text's walks alone
def errW : Option Int → Value
 | none => .nilIface
 | some c => .iface 0 (.int .i64 c)
theorem errW_none : errW none = .nilIface := rfl
theorem errW_some (c : Int) : errW (some c) = .iface 0 (.int .i64 c) := rfl
theorem info2 : (Try.prog.info? 2).map (fun i => (i.zero,i.size,i.bytes)) = some (some (.int .i64 0),1,8) := by kernel_rfl
theorem info3 : (Try.prog.info? 3).map (fun i => (i.zero,i.size,i.bytes)) = some (some (.int .i64 0),1,8) := by kernel_rfl
theorem info43 : (Try.prog.info? 43).map (fun i => (i.zero,i.size,i.bytes)) = some (some (.agg #[(.string ⟨#[]⟩),(.int .i64 0),(.int .i64 0),(.int .i64 0),(.int .i64 0)]),5,48) := by kernel_rfl
theorem info51 : (Try.prog.info? 51).map (fun i => (i.zero,i.size,i.bytes)) = some (some (.agg #[(.bool false),(.int .i64 0)]),2,16) := by kernel_rfl
theorem info59 : (Try.prog.info? 59).map (fun i => (i.zero,i.size,i.bytes)) = some (some (.agg #[(.bool false),(.int .i64 0)]),2,16) := by kernel_rfl
-- the values' own types
structure S43 where
 f0 : ByteArray
 f1 : Int
 f2 : Int
 f3 : Int
 f4 : Int
def z43 : S43 := ⟨(⟨#[]⟩ : ByteArray),(0 : Int),(0 : Int),(0 : Int),(0 : Int)⟩
def k43 : Kd S43 := Kd.iso (Kd.pair Kd.string (Kd.pair (Kd.int .i64) (Kd.pair (Kd.int .i64) (Kd.pair (Kd.int .i64) (Kd.int .i64))))) (fun x : S43 => (x.f0,x.f1,x.f2,x.f3,x.f4))
theorem k43_heap : Kd.Heap k43 := Kd.heap_iso _ (Kd.heap_pair Kd.heap_string (Kd.heap_pair (Kd.heap_int .i64) (Kd.heap_pair (Kd.heap_int .i64) (Kd.heap_pair (Kd.heap_int .i64) (Kd.heap_int .i64)))))
theorem k43_open {w : World} {x : S43} {cs : List Value} (h : k43.K w x cs) : cs = [.string x.f0,.int .i64 x.f1,.int .i64 x.f2,.int .i64 x.f3,.int .i64 x.f4] := by
 obtain ⟨_,_,rfl,rfl,⟨_,_,rfl,rfl,⟨_,_,rfl,rfl,⟨_,_,rfl,rfl,rfl⟩⟩⟩⟩ := h
 exact rfl
theorem k43_openM {w : World} {base : Nat} {ok : Nat → Prop} {x : S43} {cs : List Value} (h : k43.M w base ok x cs) : cs = [.string x.f0,.int .i64 x.f1,.int .i64 x.f2,.int .i64 x.f3,.int .i64 x.f4] := by
 obtain ⟨_,_,rfl,rfl,⟨_,_,rfl,rfl,⟨_,_,rfl,rfl,⟨_,_,rfl,rfl,rfl⟩⟩⟩⟩ := h
 exact rfl
theorem k43_mk (w : World) (x : S43)  : k43.K w x [.string x.f0,.int .i64 x.f1,.int .i64 x.f2,.int .i64 x.f3,.int .i64 x.f4] := ⟨[.string x.f0],[.int .i64 x.f1,.int .i64 x.f2,.int .i64 x.f3,.int .i64 x.f4],rfl,rfl,⟨[.int .i64 x.f1],[.int .i64 x.f2,.int .i64 x.f3,.int .i64 x.f4],rfl,rfl,⟨[.int .i64 x.f2],[.int .i64 x.f3,.int .i64 x.f4],rfl,rfl,⟨[.int .i64 x.f3],[.int .i64 x.f4],rfl,rfl,rfl⟩⟩⟩⟩
theorem k43_mkM (w : World) (base : Nat) (ok : Nat → Prop) (x : S43)  : k43.M w base ok x [.string x.f0,.int .i64 x.f1,.int .i64 x.f2,.int .i64 x.f3,.int .i64 x.f4] := ⟨[.string x.f0],[.int .i64 x.f1,.int .i64 x.f2,.int .i64 x.f3,.int .i64 x.f4],rfl,rfl,⟨[.int .i64 x.f1],[.int .i64 x.f2,.int .i64 x.f3,.int .i64 x.f4],rfl,rfl,⟨[.int .i64 x.f2],[.int .i64 x.f3,.int .i64 x.f4],rfl,rfl,⟨[.int .i64 x.f3],[.int .i64 x.f4],rfl,rfl,rfl⟩⟩⟩⟩
def rd_T43 (xs : List S43) (i : Int) : S43 := xs.getD i.toNat z43
theorem at_T43 {w : World} {A : Option Addr} {n : Nat} {xs : List S43} (h : Kd.C k43 w A n xs) (i : Int) (h0 : 0 ≤ i) (h1 : i < n) : ∃ ad ,A = some ad ∧ w.cell? (ad.add (i.toNat * 5)) = some (.string (rd_T43 xs i).f0) ∧ w.cell? ⟨(ad.add (i.toNat * 5)).block,(ad.add (i.toNat * 5)).off + 1,none⟩ = some (.int .i64 (rd_T43 xs i).f1) ∧ w.cell? ⟨(ad.add (i.toNat * 5)).block,(ad.add (i.toNat * 5)).off + 2,none⟩ = some (.int .i64 (rd_T43 xs i).f2) ∧ w.cell? ⟨(ad.add (i.toNat * 5)).block,(ad.add (i.toNat * 5)).off + 3,none⟩ = some (.int .i64 (rd_T43 xs i).f3) ∧ w.cell? ⟨(ad.add (i.toNat * 5)).block,(ad.add (i.toNat * 5)).off + 4,none⟩ = some (.int .i64 (rd_T43 xs i).f4) := by
 obtain ⟨ad,c,e,_,hK,hc0⟩ := Kd.C_get h z43 i h0 h1
 have hc : ∀ j u,c[j]? = some u → w.cell? (ad.add (i.toNat * 5 + j)) = some u := hc0
 obtain rfl := k43_open hK
 exact ⟨ad,e,hc 0 _ rfl,by rw [← add_field _ _ 1 (by omega)];exact hc 1 _ rfl,by rw [← add_field _ _ 2 (by omega)];exact hc 2 _ rfl,by rw [← add_field _ _ 3 (by omega)];exact hc 3 _ rfl,by rw [← add_field _ _ 4 (by omega)];exact hc 4 _ rfl⟩
structure S51 where
 f0 : Bool
 f1 : Int
def z51 : S51 := ⟨false,(0 : Int)⟩
def k51 : Kd S51 := Kd.iso (Kd.pair Kd.bool (Kd.int .i64)) (fun x : S51 => (x.f0,x.f1))
theorem k51_heap : Kd.Heap k51 := Kd.heap_iso _ (Kd.heap_pair Kd.heap_bool (Kd.heap_int .i64))
theorem k51_open {w : World} {x : S51} {cs : List Value} (h : k51.K w x cs) : cs = [.bool x.f0,.int .i64 x.f1] := by
 obtain ⟨_,_,rfl,rfl,rfl⟩ := h
 exact rfl
theorem k51_openM {w : World} {base : Nat} {ok : Nat → Prop} {x : S51} {cs : List Value} (h : k51.M w base ok x cs) : cs = [.bool x.f0,.int .i64 x.f1] := by
 obtain ⟨_,_,rfl,rfl,rfl⟩ := h
 exact rfl
theorem k51_mk (w : World) (x : S51)  : k51.K w x [.bool x.f0,.int .i64 x.f1] := ⟨[.bool x.f0],[.int .i64 x.f1],rfl,rfl,rfl⟩
theorem k51_mkM (w : World) (base : Nat) (ok : Nat → Prop) (x : S51)  : k51.M w base ok x [.bool x.f0,.int .i64 x.f1] := ⟨[.bool x.f0],[.int .i64 x.f1],rfl,rfl,rfl⟩
def rd_T51 (xs : List S51) (i : Int) : S51 := xs.getD i.toNat z51
theorem at_T51 {w : World} {A : Option Addr} {n : Nat} {xs : List S51} (h : Kd.C k51 w A n xs) (i : Int) (h0 : 0 ≤ i) (h1 : i < n) : ∃ ad ,A = some ad ∧ w.cell? (ad.add (i.toNat * 2)) = some (.bool (rd_T51 xs i).f0) ∧ w.cell? ⟨(ad.add (i.toNat * 2)).block,(ad.add (i.toNat * 2)).off + 1,none⟩ = some (.int .i64 (rd_T51 xs i).f1) := by
 obtain ⟨ad,c,e,_,hK,hc0⟩ := Kd.C_get h z51 i h0 h1
 have hc : ∀ j u,c[j]? = some u → w.cell? (ad.add (i.toNat * 2 + j)) = some u := hc0
 obtain rfl := k51_open hK
 exact ⟨ad,e,hc 0 _ rfl,by rw [← add_field _ _ 1 (by omega)];exact hc 1 _ rfl⟩
def rd_L5 (xs : List (List S51)) (i : Int) : (List S51) := xs.getD i.toNat ([] : List S51)
theorem at_L5 {w : World} {A : Option Addr} {n : Nat} {xs : List (List S51)} (h : Kd.C (Kd.slice 51 k51) w A n xs) (i : Int) (h0 : 0 ≤ i) (h1 : i < n) : ∃ ad A0 c0,A = some ad ∧ w.cell? (ad.add i.toNat) = some (.slice A0 (rd_L5 xs i).length c0) ∧ (rd_L5 xs i).length ≤ c0 ∧ k51.C w A0 (rd_L5 xs i).length (rd_L5 xs i) := by
 obtain ⟨ad,c,e,_,hK,hc0⟩ := Kd.C_get h ([] : List S51) i h0 h1
 have hc : ∀ j u,c[j]? = some u → w.cell? (ad.add (i.toNat * 1 + j)) = some u := hc0
 obtain ⟨A0,c0,rfl,l0,g0⟩ := hK
 exact ⟨ad,A0,c0,e,by have hq := hc 0 _ rfl;rwa [Nat.mul_one,Nat.add_zero] at hq,l0,g0⟩
def rd_L6 (xs : List (List Int)) (i : Int) : (List Int) := xs.getD i.toNat ([] : List Int)
theorem at_L6 {w : World} {A : Option Addr} {n : Nat} {xs : List (List Int)} (h : Kd.C (Kd.slice 3 (Kd.int .i64)) w A n xs) (i : Int) (h0 : 0 ≤ i) (h1 : i < n) : ∃ ad A0 c0,A = some ad ∧ w.cell? (ad.add i.toNat) = some (.slice A0 (rd_L6 xs i).length c0) ∧ (rd_L6 xs i).length ≤ c0 ∧ (Kd.int .i64).C w A0 (rd_L6 xs i).length (rd_L6 xs i) := by
 obtain ⟨ad,c,e,_,hK,hc0⟩ := Kd.C_get h ([] : List Int) i h0 h1
 have hc : ∀ j u,c[j]? = some u → w.cell? (ad.add (i.toNat * 1 + j)) = some u := hc0
 obtain ⟨A0,c0,rfl,l0,g0⟩ := hK
 exact ⟨ad,A0,c0,e,by have hq := hc 0 _ rfl;rwa [Nat.mul_one,Nat.add_zero] at hq,l0,g0⟩
def rd_L7 (xs : List (List S43)) (i : Int) : (List S43) := xs.getD i.toNat ([] : List S43)
theorem at_L7 {w : World} {A : Option Addr} {n : Nat} {xs : List (List S43)} (h : Kd.C (Kd.slice 43 k43) w A n xs) (i : Int) (h0 : 0 ≤ i) (h1 : i < n) : ∃ ad A0 c0,A = some ad ∧ w.cell? (ad.add i.toNat) = some (.slice A0 (rd_L7 xs i).length c0) ∧ (rd_L7 xs i).length ≤ c0 ∧ k43.C w A0 (rd_L7 xs i).length (rd_L7 xs i) := by
 obtain ⟨ad,c,e,_,hK,hc0⟩ := Kd.C_get h ([] : List S43) i h0 h1
 have hc : ∀ j u,c[j]? = some u → w.cell? (ad.add (i.toNat * 1 + j)) = some u := hc0
 obtain ⟨A0,c0,rfl,l0,g0⟩ := hK
 exact ⟨ad,A0,c0,e,by have hq := hc 0 _ rfl;rwa [Nat.mul_one,Nat.add_zero] at hq,l0,g0⟩
structure S59 where
 f0 : Bool
 f1 : Int
def z59 : S59 := ⟨false,(0 : Int)⟩
def k59 : Kd S59 := Kd.iso (Kd.pair Kd.bool (Kd.int .i64)) (fun x : S59 => (x.f0,x.f1))
theorem k59_heap : Kd.Heap k59 := Kd.heap_iso _ (Kd.heap_pair Kd.heap_bool (Kd.heap_int .i64))
theorem k59_open {w : World} {x : S59} {cs : List Value} (h : k59.K w x cs) : cs = [.bool x.f0,.int .i64 x.f1] := by
 obtain ⟨_,_,rfl,rfl,rfl⟩ := h
 exact rfl
theorem k59_openM {w : World} {base : Nat} {ok : Nat → Prop} {x : S59} {cs : List Value} (h : k59.M w base ok x cs) : cs = [.bool x.f0,.int .i64 x.f1] := by
 obtain ⟨_,_,rfl,rfl,rfl⟩ := h
 exact rfl
theorem k59_mk (w : World) (x : S59)  : k59.K w x [.bool x.f0,.int .i64 x.f1] := ⟨[.bool x.f0],[.int .i64 x.f1],rfl,rfl,rfl⟩
theorem k59_mkM (w : World) (base : Nat) (ok : Nat → Prop) (x : S59)  : k59.M w base ok x [.bool x.f0,.int .i64 x.f1] := ⟨[.bool x.f0],[.int .i64 x.f1],rfl,rfl,rfl⟩
def rd_T59 (xs : List S59) (i : Int) : S59 := xs.getD i.toNat z59
theorem at_T59 {w : World} {A : Option Addr} {n : Nat} {xs : List S59} (h : Kd.C k59 w A n xs) (i : Int) (h0 : 0 ≤ i) (h1 : i < n) : ∃ ad ,A = some ad ∧ w.cell? (ad.add (i.toNat * 2)) = some (.bool (rd_T59 xs i).f0) ∧ w.cell? ⟨(ad.add (i.toNat * 2)).block,(ad.add (i.toNat * 2)).off + 1,none⟩ = some (.int .i64 (rd_T59 xs i).f1) := by
 obtain ⟨ad,c,e,_,hK,hc0⟩ := Kd.C_get h z59 i h0 h1
 have hc : ∀ j u,c[j]? = some u → w.cell? (ad.add (i.toNat * 2 + j)) = some u := hc0
 obtain rfl := k59_open hK
 exact ⟨ad,e,hc 0 _ rfl,by rw [← add_field _ _ 1 (by omega)];exact hc 1 _ rfl⟩
end Go.Proofs.Ytcdjhdfjkfbgdaa.PD56
namespace Go.Proofs.Ytcdjhdfjkfbgdaa.PD56
open Go.RowKit Go.Proofs.YtcdjhdfjkfbgdaaW.PrintWords Go.Proofs.YtcdjhdfjkfbgdaaW.PrintLast Go.Proofs.YtcdjhdfjkfbgdaaW.PrintMore
attribute [local go_sem] max2_int min2_int max_two min_two max_three min_three max_four min_four   -- for this text's walks alone
def demand_between_int.f (a0 : Int) (a1 : Int) (a2 : Int) : Option (Bool) := if a1 ≤ a0 then (some (decide (a0 ≤ a2))) else (some false)
set_option maxHeartbeats 100000000 in
set_option maxRecDepth 100000 in
theorem demand_between_int.calls (a0 : Int) (a1 : Int) (a2 : Int) (r : Bool) (w : World) (h : demand_between_int.f a0 a1 a2 = some r) :
  Calls Try.prog 34 #[.int .i64 a0,.int .i64 a1,.int .i64 a2] w fun e w' => e = .returned (.bool r) ∧ Drawn0 w w' := by
 have H : (if a1 ≤ a0 then (some (decide (a0 ≤ a2))) else (some false)) = some r := h
 clear h
 by_cases c4 : a1 ≤ a0
 ·rw [if_pos c4] at H
  have c4b0 : decide (a1 ≤ a0) = true := decide_eq_true c4
  clear c4
  obtain rfl := Option.some.inj H
  go_enter Try.func34,Try.ntmps34
  go_wp2
  go_ret
  exact ⟨by first | rfl | (simp;done) | (simp [*];done),by repeat (first | exact Drawn0.refl _ | apply Drawn0.step)⟩
 ·rw [if_neg c4] at H
  have c4b0 : decide (a1 ≤ a0) = false := decide_eq_false c4
  clear c4
  obtain rfl := Option.some.inj H
  go_enter Try.func34,Try.ntmps34
  go_wp2
  go_ret
  exact ⟨by first | rfl | (simp;done) | (simp [*];done),by repeat (first | exact Drawn0.refl _ | apply Drawn0.step)⟩
def demand_between_int64.f (a0 : Int) (a1 : Int) (a2 : Int) : Option (Bool) := if a1 ≤ a0 then (some (decide (a0 ≤ a2))) else (some false)
set_option maxHeartbeats 100000000 in
set_option maxRecDepth 100000 in
theorem demand_between_int64.calls (a0 : Int) (a1 : Int) (a2 : Int) (r : Bool) (w : World) (h : demand_between_int64.f a0 a1 a2 = some r) :
  Calls Try.prog 35 #[.int .i64 a0,.int .i64 a1,.int .i64 a2] w fun e w' => e = .returned (.bool r) ∧ Drawn0 w w' := by
 have H : (if a1 ≤ a0 then (some (decide (a0 ≤ a2))) else (some false)) = some r := h
 clear h
 by_cases c4 : a1 ≤ a0
 ·rw [if_pos c4] at H
  have c4b0 : decide (a1 ≤ a0) = true := decide_eq_true c4
  clear c4
  obtain rfl := Option.some.inj H
  go_enter Try.func35,Try.ntmps35
  go_wp2
  go_ret
  exact ⟨by first | rfl | (simp;done) | (simp [*];done),by repeat (first | exact Drawn0.refl _ | apply Drawn0.step)⟩
 ·rw [if_neg c4] at H
  have c4b0 : decide (a1 ≤ a0) = false := decide_eq_false c4
  clear c4
  obtain rfl := Option.some.inj H
  go_enter Try.func35,Try.ntmps35
  go_wp2
  go_ret
  exact ⟨by first | rfl | (simp;done) | (simp [*];done),by repeat (first | exact Drawn0.refl _ | apply Drawn0.step)⟩
-- NOT PRINTED: function 59 (lexer_run)
def lexer_digit.f (a0 : Int) : Option (Bool) := if a0 ≥ 48 then (some (decide (a0 ≤ 57))) else (some false)
set_option maxHeartbeats 100000000 in
set_option maxRecDepth 100000 in
theorem lexer_digit.calls (a0 : Int) (r : Bool) (w : World) (h : lexer_digit.f a0 = some r) :
  Calls Try.prog 61 #[.int .u8 a0] w fun e w' => e = .returned (.bool r) ∧ Drawn0 w w' := by
 have H : (if a0 ≥ 48 then (some (decide (a0 ≤ 57))) else (some false)) = some r := h
 clear h
 by_cases c2 : a0 ≥ 48
 ·rw [if_pos c2] at H
  have c2b0 : decide (48 ≤ a0) = true := decide_eq_true c2
  clear c2
  obtain rfl := Option.some.inj H
  go_enter Try.func61,Try.ntmps61
  go_wp2
  go_ret
  exact ⟨by first | rfl | (simp;done) | (simp [*];done),by repeat (first | exact Drawn0.refl _ | apply Drawn0.step)⟩
 ·rw [if_neg c2] at H
  have c2b0 : decide (48 ≤ a0) = false := decide_eq_false c2
  clear c2
  obtain rfl := Option.some.inj H
  go_enter Try.func61,Try.ntmps61
  go_wp2
  go_ret
  exact ⟨by first | rfl | (simp;done) | (simp [*];done),by repeat (first | exact Drawn0.refl _ | apply Drawn0.step)⟩
def lexer_Name_1_.f (a0 : Int) (a1_0 : ByteArray) : Option (Bool) := if 0 ≤ a0 then (if a0 < (a1_0.size : Int) then (if (bt a1_0 a0) ≥ 97 then (if (bt a1_0 a0) ≤ 122 then (some true) else ((lexer_digit.f (bt a1_0 a0)).bind fun t102 => (if t102 = true then (some true) else (some ((bt a1_0 a0) == 95))))) else ((lexer_digit.f (bt a1_0 a0)).bind fun t103 => (if t103 = true then (some true) else (some ((bt a1_0 a0) == 95))))) else (none)) else (none)
set_option maxHeartbeats 100000000 in
set_option maxRecDepth 100000 in
theorem lexer_Name_1_.calls (a0 : Int) (B1_0_ : Nat) (a1_0 : ByteArray) (r : Bool) (w : World) (hx1_0_ : w.heap[B1_0_]? = some (.cells #[.string a1_0] 9 (0,0))) (h : lexer_Name_1_.f a0 a1_0 = some r) :
  Calls Try.prog 60 #[.int .i64 a0,.pointer (some ⟨B1_0_,0,none⟩)] w fun e w' => e = .returned (.bool r) ∧ Drawn0 w w' := by
 have BK101 := Yd hx1_0_
 clear hx1_0_
 have H : (if 0 ≤ a0 then (if a0 < (a1_0.size : Int) then (if (bt a1_0 a0) ≥ 97 then (if (bt a1_0 a0) ≤ 122 then (some true) else ((lexer_digit.f (bt a1_0 a0)).bind fun t102 => (if t102 = true then (some true) else (some ((bt a1_0 a0) == 95))))) else ((lexer_digit.f (bt a1_0 a0)).bind fun t103 => (if t103 = true then (some true) else (some ((bt a1_0 a0) == 95))))) else (none)) else (none)) = some r := h
 clear h
 by_cases c3 : 0 ≤ a0
 case neg => rw [if_neg c3] at H;exact absurd H (by simp)
 rw [if_pos c3] at H
 have c3b0 : decide (0 ≤ a0) = true := decide_eq_true c3
 clear c3
 by_cases c4 : a0 < (a1_0.size : Int)
 case neg => rw [if_neg c4] at H;exact absurd H (by simp)
 rw [if_pos c4] at H
 have c4b0 : decide (a0 < (a1_0.size : Int)) = true := decide_eq_true c4
 clear c4
 by_cases c6 : (bt a1_0 a0) ≥ 97
 ·rw [if_pos c6] at H
  have c6b0 : decide (97 ≤ (bt a1_0 a0)) = true := decide_eq_true c6
  clear c6
  by_cases c8 : (bt a1_0 a0) ≤ 122
  ·rw [if_pos c8] at H
   have c8b0 : decide ((bt a1_0 a0) ≤ 122) = true := decide_eq_true c8
   clear c8
   obtain rfl := Option.some.inj H
   have hcz9_0 : w.cell? ⟨B1_0_,0,none⟩ = some (.string a1_0) := (blk_cell BK101.out 0).trans rfl
   have hfz9_0 := blk_frozen BK101.out 0
   have p5 : 0 ≤ (a0 : Int) := Y9
   have q5 : a0 < (a1_0.size : Int) := Y9
   have hx5 := bt_at a1_0 a0
   replace p5 := eq_true p5
   replace q5 := eq_true q5
   have p7 : 0 ≤ (a0 : Int) := Y9
   have q7 : a0 < (a1_0.size : Int) := Y9
   have hx7 := bt_at a1_0 a0
   replace p7 := eq_true p7
   replace q7 := eq_true q7
   go_enter Try.func60,Try.ntmps60
   go_wp2
   go_ret
   exact ⟨by first | rfl | (simp;done) | (simp [*];done),by repeat (first | exact Drawn0.refl _ | apply Drawn0.step)⟩
  ·rw [if_neg c8] at H
   have c8b0 : decide ((bt a1_0 a0) ≤ 122) = false := decide_eq_false c8
   clear c8
   replace H := Option.bind_eq_some_iff.mp H
   obtain ⟨t102,A110,H⟩ := H
   replace H : (if t102 = true then (some true) else (some ((bt a1_0 a0) == 95))) = some r := H
   have A11 := Yd A110
   clear A110
   by_cases c12 : t102 = true
   ·subst c12
    have H1 : (some true) = some r := by rw [if_pos rfl] at H;exact H
    clear H
    have H := H1
    clear H1
    obtain rfl := Option.some.inj H
    have hcz13_0 : w.cell? ⟨B1_0_,0,none⟩ = some (.string a1_0) := (blk_cell BK101.out 0).trans rfl
    have hfz13_0 := blk_frozen BK101.out 0
    have p5 : 0 ≤ (a0 : Int) := Y9
    have q5 : a0 < (a1_0.size : Int) := Y9
    have hx5 := bt_at a1_0 a0
    replace p5 := eq_true p5
    replace q5 := eq_true q5
    have p7 : 0 ≤ (a0 : Int) := Y9
    have q7 : a0 < (a1_0.size : Int) := Y9
    have hx7 := bt_at a1_0 a0
    replace p7 := eq_true p7
    replace q7 := eq_true q7
    have p10 : 0 ≤ (a0 : Int) := Y9
    have q10 : a0 < (a1_0.size : Int) := Y9
    have hx10 := bt_at a1_0 a0
    replace p10 := eq_true p10
    replace q10 := eq_true q10
    go_enter Try.func60,Try.ntmps60
    go_wp2_with (first | (go_at_call 61;(with_reducible refine (lexer_digit.calls (bt a1_0 a0) true _ A11.out).mono ?_);rintro e w' ⟨rfl,⟨nd,rfl⟩⟩))
    go_ret
    exact ⟨by first | rfl | (simp;done) | (simp [*];done),by repeat (first | exact Drawn0.refl _ | apply Drawn0.step)⟩
   ·replace c12 := Bool.eq_false_iff.mpr c12
    subst c12
    have H1 : (some ((bt a1_0 a0) == 95)) = some r := by rw [if_neg (show ¬ (false = true) by decide)] at H;exact H
    clear H
    have H := H1
    clear H1
    obtain rfl := Option.some.inj H
    have hcz15_0 : w.cell? ⟨B1_0_,0,none⟩ = some (.string a1_0) := (blk_cell BK101.out 0).trans rfl
    have hfz15_0 := blk_frozen BK101.out 0
    have p5 : 0 ≤ (a0 : Int) := Y9
    have q5 : a0 < (a1_0.size : Int) := Y9
    have hx5 := bt_at a1_0 a0
    replace p5 := eq_true p5
    replace q5 := eq_true q5
    have p7 : 0 ≤ (a0 : Int) := Y9
    have q7 : a0 < (a1_0.size : Int) := Y9
    have hx7 := bt_at a1_0 a0
    replace p7 := eq_true p7
    replace q7 := eq_true q7
    have p10 : 0 ≤ (a0 : Int) := Y9
    have q10 : a0 < (a1_0.size : Int) := Y9
    have hx10 := bt_at a1_0 a0
    replace p10 := eq_true p10
    replace q10 := eq_true q10
    go_enter Try.func60,Try.ntmps60
    go_wp2_with (first | (go_at_call 61;(with_reducible refine (lexer_digit.calls (bt a1_0 a0) false _ A11.out).mono ?_);rintro e w' ⟨rfl,⟨nd,rfl⟩⟩;have p14 : 0 ≤ (a0 : Int) := Y9;have q14 : a0 < (a1_0.size : Int) := Y9;have hx14 := bt_at a1_0 a0;replace p14 := eq_true p14;replace q14 := eq_true q14))
    go_ret
    exact ⟨by first | rfl | (simp;done) | (simp [*];done),by repeat (first | exact Drawn0.refl _ | apply Drawn0.step)⟩
 ·rw [if_neg c6] at H
  have c6b0 : decide (97 ≤ (bt a1_0 a0)) = false := decide_eq_false c6
  clear c6
  replace H := Option.bind_eq_some_iff.mp H
  obtain ⟨t103,A170,H⟩ := H
  replace H : (if t103 = true then (some true) else (some ((bt a1_0 a0) == 95))) = some r := H
  have A17 := Yd A170
  clear A170
  by_cases c18 : t103 = true
  ·subst c18
   have H1 : (some true) = some r := by rw [if_pos rfl] at H;exact H
   clear H
   have H := H1
   clear H1
   obtain rfl := Option.some.inj H
   have hcz19_0 : w.cell? ⟨B1_0_,0,none⟩ = some (.string a1_0) := (blk_cell BK101.out 0).trans rfl
   have hfz19_0 := blk_frozen BK101.out 0
   have p5 : 0 ≤ (a0 : Int) := Y9
   have q5 : a0 < (a1_0.size : Int) := Y9
   have hx5 := bt_at a1_0 a0
   replace p5 := eq_true p5
   replace q5 := eq_true q5
   have p16 : 0 ≤ (a0 : Int) := Y9
   have q16 : a0 < (a1_0.size : Int) := Y9
   have hx16 := bt_at a1_0 a0
   replace p16 := eq_true p16
   replace q16 := eq_true q16
   go_enter Try.func60,Try.ntmps60
   go_wp2_with (first | (go_at_call 61;(with_reducible refine (lexer_digit.calls (bt a1_0 a0) true _ A17.out).mono ?_);rintro e w' ⟨rfl,⟨nd,rfl⟩⟩))
   go_ret
   exact ⟨by first | rfl | (simp;done) | (simp [*];done),by repeat (first | exact Drawn0.refl _ | apply Drawn0.step)⟩
  ·replace c18 := Bool.eq_false_iff.mpr c18
   subst c18
   have H1 : (some ((bt a1_0 a0) == 95)) = some r := by rw [if_neg (show ¬ (false = true) by decide)] at H;exact H
   clear H
   have H := H1
   clear H1
   obtain rfl := Option.some.inj H
   have hcz21_0 : w.cell? ⟨B1_0_,0,none⟩ = some (.string a1_0) := (blk_cell BK101.out 0).trans rfl
   have hfz21_0 := blk_frozen BK101.out 0
   have p5 : 0 ≤ (a0 : Int) := Y9
   have q5 : a0 < (a1_0.size : Int) := Y9
   have hx5 := bt_at a1_0 a0
   replace p5 := eq_true p5
   replace q5 := eq_true q5
   have p16 : 0 ≤ (a0 : Int) := Y9
   have q16 : a0 < (a1_0.size : Int) := Y9
   have hx16 := bt_at a1_0 a0
   replace p16 := eq_true p16
   replace q16 := eq_true q16
   go_enter Try.func60,Try.ntmps60
   go_wp2_with (first | (go_at_call 61;(with_reducible refine (lexer_digit.calls (bt a1_0 a0) false _ A17.out).mono ?_);rintro e w' ⟨rfl,⟨nd,rfl⟩⟩;have p20 : 0 ≤ (a0 : Int) := Y9;have q20 : a0 < (a1_0.size : Int) := Y9;have hx20 := bt_at a1_0 a0;replace p20 := eq_true p20;replace q20 := eq_true q20))
   go_ret
   exact ⟨by first | rfl | (simp;done) | (simp [*];done),by repeat (first | exact Drawn0.refl _ | apply Drawn0.step)⟩
def lexer_run__c60.l0 : Nat → ByteArray → Int → ByteArray → Option (Int)
 | 0,_,_,_ => none
 | k + 1,x0,x1,x105000 => if x1 < (x0.size : Int) then ((lexer_Name_1_.f x1 x105000).bind fun t105 => (if t105 = true then (lexer_run__c60.l0 k x0 (wrap64 (x1 + 1)) x105000) else (some x1))) else (some x1)
def lexer_run__c60.f (k : Nat) (a0 : ByteArray) (a1 : Int) (a2_0 : ByteArray) : Option (Int) := lexer_run__c60.l0 k a0 a1 a2_0
theorem lexer_run__c60.mono_l : ∀ k,(∀ y0 y1 y2,LeO (lexer_run__c60.l0 k y0 y1 y2) (lexer_run__c60.l0 (k + 1) y0 y1 y2))
 | 0 => fun _ _ _ r h => by simp [lexer_run__c60.l0] at h
 | k + 1 => by
  have ih0 := lexer_run__c60.mono_l k
  ·intro y0 y1 y2
   unfold lexer_run__c60.l0
   repeat' first
   | (with_reducible exact ih0 _ _ _)
   | (with_reducible exact LeO.refl _)
   | (with_reducible exact LeO.none _)
   | (with_reducible refine LeO.ite ?_ ?_)
   | (with_reducible refine LeO.bind ?_ (fun _ => ?_))
   | exact ih0 _ _ _
   | exact LeO.none _
   | refine LeO.ite ?_ ?_
   | refine LeO.bind ?_ (fun _ => ?_)
theorem lexer_run__c60.mono : ∀ a0 a1 a2 k,LeO (lexer_run__c60.f k a0 a1 a2) (lexer_run__c60.f (k + 1) a0 a1 a2) := by
 intro a0 a1 a2 k
 have ih0 := lexer_run__c60.mono_l k
 unfold lexer_run__c60.f
 repeat' first
   | (with_reducible exact ih0 _ _ _)
   | (with_reducible exact LeO.refl _)
   | (with_reducible exact LeO.none _)
   | (with_reducible refine LeO.ite ?_ ?_)
   | (with_reducible refine LeO.bind ?_ (fun _ => ?_))
   | exact ih0 _ _ _
   | exact LeO.none _
   | refine LeO.ite ?_ ?_
   | refine LeO.bind ?_ (fun _ => ?_)
set_option maxHeartbeats 100000000 in
set_option maxRecDepth 100000 in
theorem lexer_run__c60.calls (k : Nat) (a0 : ByteArray) (a1 : Int) (B2_0_ : Nat) (a2_0 : ByteArray) (r : Int) (w : World) (hx2_0_ : w.heap[B2_0_]? = some (.cells #[.string a2_0] 9 (0,0))) (h : lexer_run__c60.f k a0 a1 a2_0 = some r) :
  Calls Try.prog 59 #[.string a0,.int .i64 a1,.func (.func 60) #[] #[.pointer (some ⟨B2_0_,0,none⟩)]] w fun e w' => e = .returned (.int .i64 r) ∧ Below w.heap.size w w' := by
 have BK104 := Yd hx2_0_
 clear hx2_0_
 have HB := Yd (Below.refl w.heap.size w)
 have H : (lexer_run__c60.l0 k a0 a1 a2_0) = some r := h
 clear h
 have H' := Yd H
 clear H
 go_enter Try.func59,Try.ntmps59
 go_wp2
 go_loopg [1] k (fun kq v1 w' => ∃ (x1_1 : Int),v1 = .int .i64 x1_1 ∧ Aside0 (lexer_run__c60.l0 kq a0 x1_1 a2_0 = some r) ∧ Aside0 (kq ≤ k) ∧ Aside0 (w'.heap[B2_0_]? = some (.cells #[.string a2_0] 9 (0,0))) ∧ Aside0 (Below w.heap.size w w'))
 case atStart => exact ⟨(a1),Y12,H',⟨Nat.le_refl _⟩,⟨Y6 BK104.out⟩,⟨by repeat (first | (with_reducible first | exact HB.out | apply below_alloc | apply Y15 | apply below_drew1 | refine below_set ?_ GE104.out) | exact HB.out)⟩⟩
 case round =>
  clear H'
  try clear p2
  try clear hx2
  obtain ⟨x1_1,rfl,HA,HK1,BK104,HB⟩ := hrel
  cases gk with
  | zero => exact absurd HA.out (by simp [lexer_run__c60.l0])
  | succ k1 =>
   have H := HA.out
   clear HA
   simp only [lexer_run__c60.l0] at H
   by_cases c4 : x1_1 < (a0.size : Int)
   ·rw [if_pos c4] at H
    have c4b0 : decide (x1_1 < (a0.size : Int)) = true := decide_eq_true c4
    clear c4
    replace H := Option.bind_eq_some_iff.mp H
    obtain ⟨t105,A50,H⟩ := H
    replace H : (if t105 = true then (lexer_run__c60.l0 k1 a0 (wrap64 (x1_1 + 1)) a2_0) else (some x1_1)) = some r := H
    have A5 := Yd A50
    clear A50
    by_cases c6 : t105 = true
    ·subst c6
     have H1 : (lexer_run__c60.l0 k1 a0 (wrap64 (x1_1 + 1)) a2_0) = some r := by rw [if_pos rfl] at H;exact H
     clear H
     have H := H1
     clear H1
     have H' := Yd H
     clear H
     go_wp2_with (first | (go_at_call 60;(with_reducible refine (lexer_Name_1_.calls x1_1 B2_0_ a2_0 true _ ?side1 A5.out).mono ?_);(case side1 => exact (Y6 BK104.out));rintro e w' ⟨rfl,⟨nd,rfl⟩⟩))
     go_roundg k1
     case measure => have := HK1.out;omega
     case rel => exact ⟨(wrap64 (x1_1 + 1)),Y12,H',⟨by have := HK1.out;omega⟩,⟨Y6 BK104.out⟩,⟨by repeat (first | (with_reducible first | exact HB.out | apply below_alloc | apply Y15 | apply below_drew1 | refine below_set ?_ GE104.out) | exact HB.out)⟩⟩
    ·replace c6 := Bool.eq_false_iff.mpr c6
     subst c6
     have H1 : (some x1_1) = some r := by rw [if_neg (show ¬ (false = true) by decide)] at H;exact H
     clear H
     have H := H1
     clear H1
     obtain rfl := Option.some.inj H
     go_wp2_with (first | (go_at_call 60;(with_reducible refine (lexer_Name_1_.calls x1_1 B2_0_ a2_0 false _ ?side1 A5.out).mono ?_);(case side1 => exact (Y6 BK104.out));rintro e w' ⟨rfl,⟨nd,rfl⟩⟩))
     go_ret
     exact ⟨by first | rfl | (simp [errW_none,errW_some] <;> rfl) | (simp [*,errW_none,errW_some] <;> rfl),by repeat (first | (with_reducible first | exact HB.out | apply below_alloc | apply Y15 | apply below_drew1 | refine below_set ?_ GE104.out) | exact HB.out)⟩
   ·rw [if_neg c4] at H
    have c4b0 : decide (x1_1 < (a0.size : Int)) = false := decide_eq_false c4
    clear c4
    obtain rfl := Option.some.inj H
    go_wp2
    go_ret
    exact ⟨by first | rfl | (simp [errW_none,errW_some] <;> rfl) | (simp [*,errW_none,errW_some] <;> rfl),by repeat (first | (with_reducible first | exact HB.out | apply below_alloc | apply Y15 | apply below_drew1 | refine below_set ?_ GE104.out) | exact HB.out)⟩
def lexer_Name.j0 : Nat → Bool → ByteArray → Option (Bool)
 | 0,_,_ => none
 | k + 1,x20,x107000 => if x20 = true then (some false) else ((lexer_run__c60.f k x107000 0 x107000).bind fun t107 => (some (t107 == (x107000.size : Int))))
def lexer_Name.f (k : Nat) (a0 : ByteArray) : Option (Bool) := if (a0.size : Int) < 1 then (lexer_Name.j0 k true a0) else (if (a0.size : Int) > 24 then (lexer_Name.j0 k true a0) else (if 0 < (a0.size : Int) then (if (bt a0 0) < 97 then (lexer_Name.j0 k true a0) else (lexer_Name.j0 k (decide ((bt a0 0) > 122)) a0)) else (none)))
theorem lexer_Name.mono_l : ∀ k,(∀ y0 y1,LeO (lexer_Name.j0 k y0 y1) (lexer_Name.j0 (k + 1) y0 y1))
 | 0 => fun _ _ r h => by simp [lexer_Name.j0] at h
 | k + 1 => by
  have ih0 := lexer_Name.mono_l k
  ·intro y0 y1
   unfold lexer_Name.j0
   repeat' first
   | (with_reducible exact ih0 _ _)
   | (with_reducible exact lexer_run__c60.mono _ _ _ _)
   | (with_reducible exact LeO.refl _)
   | (with_reducible exact LeO.none _)
   | (with_reducible refine LeO.ite ?_ ?_)
   | (with_reducible refine LeO.bind ?_ (fun _ => ?_))
   | exact ih0 _ _
   | exact lexer_run__c60.mono _ _ _ _
   | exact LeO.none _
   | refine LeO.ite ?_ ?_
   | refine LeO.bind ?_ (fun _ => ?_)
theorem lexer_Name.mono : ∀ a0 k,LeO (lexer_Name.f k a0) (lexer_Name.f (k + 1) a0) := by
 intro a0 k
 have ih0 := lexer_Name.mono_l k
 unfold lexer_Name.f
 repeat' first
   | (with_reducible exact ih0 _ _)
   | (with_reducible exact lexer_run__c60.mono _ _ _ _)
   | (with_reducible exact LeO.refl _)
   | (with_reducible exact LeO.none _)
   | (with_reducible refine LeO.ite ?_ ?_)
   | (with_reducible refine LeO.bind ?_ (fun _ => ?_))
   | exact ih0 _ _
   | exact lexer_run__c60.mono _ _ _ _
   | exact LeO.none _
   | refine LeO.ite ?_ ?_
   | refine LeO.bind ?_ (fun _ => ?_)
set_option maxHeartbeats 100000000 in
set_option maxRecDepth 100000 in
theorem lexer_Name.calls (k : Nat) (a0 : ByteArray) (r : Bool) (w : World) (h : lexer_Name.f k a0 = some r) :
  Calls Try.prog 45 #[.string a0] w fun e w' => e = .returned (.bool r) ∧ Below w.heap.size w w' := by
 have HB := Yd (Below.refl w.heap.size w)
 have H : (if (a0.size : Int) < 1 then (lexer_Name.j0 k true a0) else (if (a0.size : Int) > 24 then (lexer_Name.j0 k true a0) else (if 0 < (a0.size : Int) then (if (bt a0 0) < 97 then (lexer_Name.j0 k true a0) else (lexer_Name.j0 k (decide ((bt a0 0) > 122)) a0)) else (none)))) = some r := h
 clear h
 have HC2 := Yd H
 clear H
 go_enter Try.func45,Try.ntmps45
 go_upto_region 1 with (first | ((with_reducible refine gate_dst (N := 1) rfl ?_);(try (refine gate_guard (by rfl) ?_;dsimp only));refine box_event ?hg (N := 1) ?hd (cs := #[.string a0]) (t := 9) ?hr ?_;(case hd => rfl);(case hg => rfl);(case hr => first | (go_simp;done) | (go_simp;rfl));intro gb106 hg w3 hbox hb;have n0_ := Yd (below_step (Y3 HB.out) hb);have n1_ := Yd (hbox);have n2_ := Yd ((by rw [hg];exact (below_size (Y3 HB.out)) : w.heap.size ≤ gb106));have n3_ := Yd ((by rw [hg];exact (below_size (Y3 HB.out)) : w.heap.size ≤ gb106));clear HB;have HB := n0_;have BK106 := n1_;have GW106 := n2_;have GE106 := n3_;clear n0_ n1_ n2_ n3_;clear hb hbox hg))
 (try simp only [Act.put,List.setIfInBounds_toArray,List.set_cons_zero,List.set_cons_succ])
 go_cut [20] (fun v20 wc => ∃ (kq : Nat) (x20_1 : Bool),v20 = .bool x20_1 ∧ Aside0 (lexer_Name.j0 kq x20_1 a0 = some r) ∧ Aside0 (kq ≤ k) ∧ Aside0 (wc.heap[gb106]? = some (.cells #[.string a0] 9 (0,0))) ∧ Aside0 (Below w.heap.size w wc))
 case first =>
  have H := HC2.out
  clear HC2
  by_cases c4 : (a0.size : Int) < 1
  ·rw [if_pos c4] at H
   have c4b0 : decide ((a0.size : Int) < 1) = true := decide_eq_true c4
   have c4b1 : decide (a0.size < 1) = true := decide_eq_true (by omega)
   clear c4
   (first | rw [c4b0] | (simp only [i64_w,i32_w];rw [c4b0]) | skip)
   have H' := Yd H
   clear H
   have hcz5_0 : w3.cell? ⟨gb106,0,none⟩ = some (.string a0) := (blk_cell BK106.out 0).trans rfl
   have hfz5_0 := blk_frozen BK106.out 0
   go_wp2
   go_meet
   case rel => exact ⟨_,(true),Y12,H',⟨by first | omega | exact Nat.le_refl _⟩,⟨Y6 BK106.out⟩,⟨by repeat (first | (with_reducible first | exact HB.out | apply below_alloc | apply Y15 | apply below_drew1 | refine below_set ?_ GE106.out) | exact HB.out)⟩⟩
  ·rw [if_neg c4] at H
   have c4b0 : decide ((a0.size : Int) < 1) = false := decide_eq_false c4
   have c4b1 : decide (a0.size < 1) = false := decide_eq_false (by omega)
   clear c4
   (first | rw [c4b0] | (simp only [i64_w,i32_w];rw [c4b0]) | skip)
   by_cases c6 : (a0.size : Int) > 24
   ·rw [if_pos c6] at H
    have c6b0 : decide (24 < (a0.size : Int)) = true := decide_eq_true c6
    have c6b1 : decide (24 < a0.size) = true := decide_eq_true (by omega)
    clear c6
    have H' := Yd H
    clear H
    have hcz7_0 : w3.cell? ⟨gb106,0,none⟩ = some (.string a0) := (blk_cell BK106.out 0).trans rfl
    have hfz7_0 := blk_frozen BK106.out 0
    go_wp2
    go_meet
    case rel => exact ⟨_,(true),Y12,H',⟨by first | omega | exact Nat.le_refl _⟩,⟨Y6 BK106.out⟩,⟨by repeat (first | (with_reducible first | exact HB.out | apply below_alloc | apply Y15 | apply below_drew1 | refine below_set ?_ GE106.out) | exact HB.out)⟩⟩
   ·rw [if_neg c6] at H
    have c6b0 : decide (24 < (a0.size : Int)) = false := decide_eq_false c6
    have c6b1 : decide (24 < a0.size) = false := decide_eq_false (by omega)
    clear c6
    by_cases c8 : 0 < (a0.size : Int)
    case neg => rw [if_neg c8] at H;exact absurd H (by simp)
    rw [if_pos c8] at H
    have c8b0 : decide (0 < (a0.size : Int)) = true := decide_eq_true c8
    have c8b1 : decide (0 < a0.size) = true := decide_eq_true (by omega)
    clear c8
    by_cases c10 : (bt a0 0) < 97
    ·rw [if_pos c10] at H
     have c10b0 : decide ((bt a0 0) < 97) = true := decide_eq_true c10
     clear c10
     have H' := Yd H
     clear H
     have hcz11_0 : w3.cell? ⟨gb106,0,none⟩ = some (.string a0) := (blk_cell BK106.out 0).trans rfl
     have hfz11_0 := blk_frozen BK106.out 0
     have p9 : 0 ≤ (0 : Int) := (by omega)
     have q9 : 0 < a0.size := (by have : (0 : Int) < (a0.size : Int) := Y9;omega)
     have hx9 : ∀ h : 0 < a0.size,((a0[0]'h).toNat : Int) = bt a0 0 := bt_at a0 0
     clear p9
     have qi9 : (0 < (a0.size : Int)) = True := eq_true (Y9)
     replace q9 := eq_true q9
     go_wp2
     go_meet
     case rel => exact ⟨_,(true),Y12,H',⟨by first | omega | exact Nat.le_refl _⟩,⟨Y6 BK106.out⟩,⟨by repeat (first | (with_reducible first | exact HB.out | apply below_alloc | apply Y15 | apply below_drew1 | refine below_set ?_ GE106.out) | exact HB.out)⟩⟩
    ·rw [if_neg c10] at H
     have c10b0 : decide ((bt a0 0) < 97) = false := decide_eq_false c10
     clear c10
     have H' := Yd H
     clear H
     have hcz13_0 : w3.cell? ⟨gb106,0,none⟩ = some (.string a0) := (blk_cell BK106.out 0).trans rfl
     have hfz13_0 := blk_frozen BK106.out 0
     have p9 : 0 ≤ (0 : Int) := (by omega)
     have q9 : 0 < a0.size := (by have : (0 : Int) < (a0.size : Int) := Y9;omega)
     have hx9 : ∀ h : 0 < a0.size,((a0[0]'h).toNat : Int) = bt a0 0 := bt_at a0 0
     clear p9
     have qi9 : (0 < (a0.size : Int)) = True := eq_true (Y9)
     replace q9 := eq_true q9
     have p12 : 0 ≤ (0 : Int) := (by omega)
     have q12 : 0 < a0.size := (by have : (0 : Int) < (a0.size : Int) := Y9;omega)
     have hx12 : ∀ h : 0 < a0.size,((a0[0]'h).toNat : Int) = bt a0 0 := bt_at a0 0
     clear p12
     have qi12 : (0 < (a0.size : Int)) = True := eq_true (Y9)
     replace q12 := eq_true q12
     go_wp2
     go_meet
     case rel => exact ⟨_,(decide ((bt a0 0) > 122)),Y12,H',⟨by first | omega | exact Nat.le_refl _⟩,⟨Y6 BK106.out⟩,⟨by repeat (first | (with_reducible first | exact HB.out | apply below_alloc | apply Y15 | apply below_drew1 | refine below_set ?_ GE106.out) | exact HB.out)⟩⟩
 case rest =>
  clear HC2
  try clear c1
  try clear p1
  try clear q1
  try clear hx1
  try clear qi1
  try clear p2
  try clear c4
  try clear c4b0
  try clear c4b1
  try clear c6
  try clear c6b0
  try clear c6b1
  try clear c8
  try clear c8b0
  try clear c8b1
  try clear p9
  try clear q9
  try clear hx9
  try clear qi9
  try clear c10
  try clear c10b0
  try clear p12
  try clear q12
  try clear hx12
  try clear qi12
  try clear hcz11_0
  try clear hcz13_0
  try clear hcz5_0
  try clear hcz7_0
  try clear hfz11_0
  try clear hfz13_0
  try clear hfz5_0
  try clear hfz7_0
  try clear p12
  try clear p9
  try clear q12
  try clear q9
  obtain ⟨kq,x20_1,rfl,HA,HJ1,BK106,HB⟩ := hcut
  cases kq with
  | zero => exact absurd HA.out (by simp [lexer_Name.j0])
  | succ kj1 =>
   have H := HA.out
   clear HA
   simp only [lexer_Name.j0] at H
   by_cases c14 : x20_1 = true
   ·subst c14
    have H1 : (some false) = some r := by rw [if_pos rfl] at H;exact H
    clear H
    have H := H1
    clear H1
    obtain rfl := Option.some.inj H
    go_wp2
    go_ret
    exact ⟨by first | rfl | (simp [errW_none,errW_some] <;> rfl) | (simp [*,errW_none,errW_some] <;> rfl),by repeat (first | (with_reducible first | exact HB.out | apply below_alloc | apply Y15 | apply below_drew1 | refine below_set ?_ GE106.out) | exact HB.out)⟩
   ·replace c14 := Bool.eq_false_iff.mpr c14
    subst c14
    have H1 : ((lexer_run__c60.f kj1 a0 0 a0).bind fun t107 => (some (t107 == (a0.size : Int)))) = some r := by rw [if_neg (show ¬ (false = true) by decide)] at H;exact H
    clear H
    have H := H1
    clear H1
    replace H := Option.bind_eq_some_iff.mp H
    obtain ⟨t107,A150,H⟩ := H
    replace H : (some (t107 == (a0.size : Int))) = some r := H
    have A15 := Yd A150
    clear A150
    obtain rfl := Option.some.inj H
    try go_wp2
    have n0_ := Yd (blk_drew BK106.out)
    have n1_ := Yd (below_drew1 HB.out)
    clear BK106
    clear HB
    have BK106 := n0_
    have HB := n1_
    clear n0_ n1_
    refine start_ (n := 7) (S := fun w' => w'.cell? ⟨gb106,0,none⟩ = some (.string a0)) (ds := []) #[YF,YF,YF,YF,YF,YF,YF] (by kernel_rfl) rfl rfl ((blk_cell BK106.out 0).trans rfl) (fun hHeld => ?_)
    generalize wc.drew = w16 at BK106 HB hHeld ⊢
    refine pure_ (i := 1) (N := some 22) (v := ?_) (a' := ?_) #[YF,YT,YF,YF,YF,YF,YF] rfl rfl (by kernel_rfl) (fun _ _ _ h => h) (Or.inl ⟨by rfl,?_⟩) ?_ ?_
    rotate_left
    ·intro w'
     go_simp
     with_reducible rfl
    rotate_left
    ·simp only [Act.put,Ya,Yb,Yc,i64_w,i32_w]
     rfl
    refine take_ (i := 0) (N := some 21) (v := ?_) (a' := ?_) #[YT,YT,YF,YF,YF,YF,YF] rfl rfl (by kernel_rfl) (fun _ _ _ h => h) (Or.inl ⟨by rfl,?_⟩) hHeld ?_ ?_
    rotate_left
    ·intro w' s0
     go_simp
     with_reducible rfl
    rotate_left
    ·simp only [Act.put,Ya,Yb,Yc,i64_w,i32_w]
     rfl
    refine take_ (i := 3) (N := some 24) (v := ?_) (a' := ?_) #[YT,YT,YF,YT,YF,YF,YF] rfl rfl (by kernel_rfl) (fun _ _ _ h => h) (Or.inl ⟨by rfl,?_⟩) hHeld ?_ ?_
    rotate_left
    ·intro w' s0
     go_simp
     with_reducible rfl
    rotate_left
    ·simp only [Act.put,Ya,Yb,Yc,i64_w,i32_w]
     rfl
    refine pure_ (i := 4) (N := some 25) (v := ?_) (a' := ?_) #[YT,YT,YF,YT,YT,YF,YF] rfl rfl (by kernel_rfl) (fun _ _ _ h => h) (Or.inl ⟨by rfl,?_⟩) ?_ ?_
    rotate_left
    ·intro w'
     go_simp
     with_reducible rfl
    rotate_left
    ·simp only [Act.put,Ya,Yb,Yc,i64_w,i32_w]
     rfl
    refine one_ (i := 2) (N := some 23) #[YT,YT,YT,YT,YT,YF,YF] rfl rfl (by kernel_rfl) (by decide) (fun K hK => ?_)
    refine goes_ Try.func59 (by kernel_rfl) rfl #[.string a0,.int .i64 0,.func (.func 60) #[] #[.pointer (some ⟨gb106,0,none⟩)]] (by rfl) rfl rfl Y8 ?_
    with_reducible refine (lexer_run__c60.calls kj1 a0 0 gb106 a0 t107 _ ?side1 A15.out).mono ?_
    (case side1 => exact (Y6 BK106.out))
    rintro e w17 ⟨rfl,hb⟩
    refine ⟨_,rfl,?_⟩
    have n0_ := Yd (blk_below (g := gb106) (o := .cells #[.string a0] 9 (0,0)) (Y6 BK106.out) hb)
    have n1_ := Yd (below_step (by first | exact Y4 HB.out GE106.out | exact Y3 HB.out) hb)
    clear BK106
    clear HB
    have BK106 := n0_
    have HB := n1_
    clear n0_ n1_
    (try clear hb)
    (try clear hb2)
    (try clear hk)
    (try clear hi)
    refine hK.out _ _ ((blk_cell BK106.out 0).trans rfl) (fun hHeld => ?_)
    clear hK K
    refine norm_ (a' := ?_) ?_ ?_
    rotate_left
    ·show Act.put _ (some 23) _ = _
     simp only [Act.put,Ya,Yb,Yc,i64_w,i32_w]
     rfl
    refine pure_ (i := 5) (N := some 26) (v := ?_) (a' := ?_) #[YT,YT,YT,YT,YT,YT,YF] rfl rfl (by kernel_rfl) (fun _ _ _ h => h) (Or.inl ⟨by rfl,?_⟩) ?_ ?_
    rotate_left
    ·intro w'
     go_simp
     with_reducible rfl
    rotate_left
    ·simp only [Act.put,Ya,Yb,Yc,i64_w,i32_w]
     rfl
    refine pure_ (i := 6) (N := some 2) (v := ?_) (a' := ?_) #[YT,YT,YT,YT,YT,YT,YT] rfl rfl (by kernel_rfl) (fun _ _ _ h => h) (Or.inl ⟨by rfl,?_⟩) ?_ ?_
    rotate_left
    ·intro w'
     go_simp
     with_reducible rfl
    rotate_left
    ·simp only [Act.put,Ya,Yb,Yc,i64_w,i32_w]
     rfl
    refine done_ (by kernel_rfl) ?_
    try go_wp2
    go_ret
    exact ⟨by first | rfl | (simp [errW_none,errW_some] <;> rfl) | (simp [*,errW_none,errW_some] <;> rfl),by repeat (first | (with_reducible first | exact HB.out | apply below_alloc | apply Y15 | apply below_drew1 | refine below_set ?_ GE106.out) | exact HB.out)⟩
-- NOT PRINTED: function 62 (api_Load_62)
-- NOT PRINTED: function 46 (api_Load_46)
def demand_Check_1_.f (a0_0 : ByteArray) (a0_1 : Int) (a0_2 : Int) (a0_3 : Int) (a0_4 : Int) (a1_0 : ByteArray) (a1_1 : Int) (a1_2 : Int) (a1_3 : Int) (a1_4 : Int) : Option (Bool) := some (a0_0.toList == a1_0.toList)
set_option maxHeartbeats 100000000 in
set_option maxRecDepth 100000 in
theorem demand_Check_1_.calls (a0_0 : ByteArray) (a0_1 : Int) (a0_2 : Int) (a0_3 : Int) (a0_4 : Int) (B1_0_ : Nat) (a1_0 : ByteArray) (a1_1 : Int) (a1_2 : Int) (a1_3 : Int) (a1_4 : Int) (r : Bool) (w : World) (hx1_0_ : w.heap[B1_0_]? = some (.cells #[.string a1_0,.int .i64 a1_1,.int .i64 a1_2,.int .i64 a1_3,.int .i64 a1_4] 43 (0,0))) (h : demand_Check_1_.f a0_0 a0_1 a0_2 a0_3 a0_4 a1_0 a1_1 a1_2 a1_3 a1_4 = some r) :
  Calls Try.prog 47 #[.agg #[.string a0_0,.int .i64 a0_1,.int .i64 a0_2,.int .i64 a0_3,.int .i64 a0_4],.pointer (some ⟨B1_0_,0,none⟩)] w fun e w' => e = .returned (.bool r) ∧ Below w.heap.size w w' := by
 have hu43 := Try.underlying43
 have BK108 := Yd hx1_0_
 clear hx1_0_
 have HB := Yd (Below.refl w.heap.size w)
 have H : (some (a0_0.toList == a1_0.toList)) = some r := h
 clear h
 obtain rfl := Option.some.inj H
 go_enter Try.func47,Try.ntmps47
 go_wp2_with (first | ((with_reducible refine gate_dst (N := 2) rfl ?_);refine box_event ?hg (N := 2) ?hd (cs := #[.string a0_0,.int .i64 a0_1,.int .i64 a0_2,.int .i64 a0_3,.int .i64 a0_4]) (t := 43) ?hr ?_;(case hd => rfl);(case hg => rfl);(case hr => first | (go_simp;done) | (go_simp;rfl));intro gb109 hg w3 hbox hb;have n0_ := Yd (blk_below (g := B1_0_) (o := .cells #[.string a1_0,.int .i64 a1_1,.int .i64 a1_2,.int .i64 a1_3,.int .i64 a1_4] 43 (0,0)) (Y6 BK108.out) hb);have n1_ := Yd (below_step (by first | exact Y4 HB.out GE108.out | exact Y3 HB.out) hb);have n2_ := Yd (hbox);have n3_ := Yd ((by rw [hg];exact (below_size (by first | exact Y4 HB.out GE108.out | exact Y3 HB.out)) : w.heap.size ≤ gb109));have n4_ := Yd ((by rw [hg];exact (below_size (by first | exact Y4 HB.out GE108.out | exact Y3 HB.out)) : w.heap.size ≤ gb109));have n5_ := Yd ((by rw [hg];exact Nat.ne_of_lt (blk_lt (g := B1_0_) (o := .cells #[.string a1_0,.int .i64 a1_1,.int .i64 a1_2,.int .i64 a1_3,.int .i64 a1_4] 43 (0,0)) (Y6 BK108.out)) : B1_0_ ≠ gb109));have n6_ := Yd ((by rw [hg];exact Nat.ne_of_gt (blk_lt (g := B1_0_) (o := .cells #[.string a1_0,.int .i64 a1_1,.int .i64 a1_2,.int .i64 a1_3,.int .i64 a1_4] 43 (0,0)) (Y6 BK108.out)) : gb109 ≠ B1_0_));clear BK108;clear HB;have BK108 := n0_;have HB := n1_;have BK109 := n2_;have GW109 := n3_;have GE109 := n4_;have NB108_109 := n5_;have NB109_108 := n6_;clear n0_ n1_ n2_ n3_ n4_ n5_ n6_;clear hb hbox hg;have hnb4 := NB109_108.out;have hnc4 := NB108_109.out;have hcz5_0 : w3.cell? ⟨gb109,0,none⟩ = some (.string a0_0) := (blk_cell BK109.out 0).trans rfl;have hcz5_1 : w3.cell? ⟨gb109,1,none⟩ = some (.int .i64 a0_1) := (blk_cell BK109.out 1).trans rfl;have hcz5_2 : w3.cell? ⟨gb109,2,none⟩ = some (.int .i64 a0_2) := (blk_cell BK109.out 2).trans rfl;have hcz5_3 : w3.cell? ⟨gb109,3,none⟩ = some (.int .i64 a0_3) := (blk_cell BK109.out 3).trans rfl;have hcz5_4 : w3.cell? ⟨gb109,4,none⟩ = some (.int .i64 a0_4) := (blk_cell BK109.out 4).trans rfl;have hfz5_0 := blk_frozen BK109.out 0;have hfz5_1 := blk_frozen BK109.out 1;have hfz5_2 := blk_frozen BK109.out 2;have hfz5_3 := blk_frozen BK109.out 3;have hfz5_4 := blk_frozen BK109.out 4;have hcz6_0 : w3.cell? ⟨B1_0_,0,none⟩ = some (.string a1_0) := (blk_cell BK108.out 0).trans rfl;have hcz6_1 : w3.cell? ⟨B1_0_,1,none⟩ = some (.int .i64 a1_1) := (blk_cell BK108.out 1).trans rfl;have hcz6_2 : w3.cell? ⟨B1_0_,2,none⟩ = some (.int .i64 a1_2) := (blk_cell BK108.out 2).trans rfl;have hcz6_3 : w3.cell? ⟨B1_0_,3,none⟩ = some (.int .i64 a1_3) := (blk_cell BK108.out 3).trans rfl;have hcz6_4 : w3.cell? ⟨B1_0_,4,none⟩ = some (.int .i64 a1_4) := (blk_cell BK108.out 4).trans rfl;have hfz6_0 := blk_frozen BK108.out 0;have hfz6_1 := blk_frozen BK108.out 1;have hfz6_2 := blk_frozen BK108.out 2;have hfz6_3 := blk_frozen BK108.out 3;have hfz6_4 := blk_frozen BK108.out 4))
 go_ret
 exact ⟨by first | rfl | (simp [errW_none,errW_some] <;> rfl) | (simp [*,errW_none,errW_some] <;> rfl),by repeat (first | (with_reducible first | exact HB.out | apply below_alloc | apply Y15 | apply below_drew1 | refine below_set ?_ GE108.out | refine below_set ?_ GE109.out) | exact HB.out)⟩
def api_Load__c47_.l0 : Nat → List (S43) → Int → Int → ByteArray → Int → Int → Int → Int → Option (Int)
 | 0,_,_,_,_,_,_,_,_ => none
 | k + 1,x0,x7,x8,x111000,x111001,x111002,x111003,x111004 => if x8 < x7 then (if 0 ≤ x8 then (if x8 < (x0.length : Int) then ((demand_Check_1_.f ((rd_T43 x0 x8).f0) ((rd_T43 x0 x8).f1) ((rd_T43 x0 x8).f2) ((rd_T43 x0 x8).f3) ((rd_T43 x0 x8).f4) x111000 x111001 x111002 x111003 x111004).bind fun t112 => (if t112 = true then (some x8) else (api_Load__c47_.l0 k x0 x7 (wrap64 (x8 + 1)) x111000 x111001 x111002 x111003 x111004))) else (none)) else (none)) else (some (-1))
def api_Load__c47_.f (k : Nat) (l0 : List (S43)) (a1_0 : ByteArray) (a1_1 : Int) (a1_2 : Int) (a1_3 : Int) (a1_4 : Int) : Option (Int) := api_Load__c47_.l0 k l0 (l0.length : Int) 0 a1_0 a1_1 a1_2 a1_3 a1_4
theorem api_Load__c47_.mono_l : ∀ k,(∀ y0 y1 y2 y3 y4 y5 y6 y7,LeO (api_Load__c47_.l0 k y0 y1 y2 y3 y4 y5 y6 y7) (api_Load__c47_.l0 (k + 1) y0 y1 y2 y3 y4 y5 y6 y7))
 | 0 => fun _ _ _ _ _ _ _ _ r h => by simp [api_Load__c47_.l0] at h
 | k + 1 => by
  have ih0 := api_Load__c47_.mono_l k
  ·intro y0 y1 y2 y3 y4 y5 y6 y7
   unfold api_Load__c47_.l0
   repeat' first
   | (with_reducible exact ih0 _ _ _ _ _ _ _ _)
   | (with_reducible exact LeO.refl _)
   | (with_reducible exact LeO.none _)
   | (with_reducible refine LeO.ite ?_ ?_)
   | (with_reducible refine LeO.bind ?_ (fun _ => ?_))
   | exact ih0 _ _ _ _ _ _ _ _
   | exact LeO.none _
   | refine LeO.ite ?_ ?_
   | refine LeO.bind ?_ (fun _ => ?_)
theorem api_Load__c47_.mono : ∀ a0 a1 a2 a3 a4 a5 k,LeO (api_Load__c47_.f k a0 a1 a2 a3 a4 a5) (api_Load__c47_.f (k + 1) a0 a1 a2 a3 a4 a5) := by
 intro a0 a1 a2 a3 a4 a5 k
 have ih0 := api_Load__c47_.mono_l k
 unfold api_Load__c47_.f
 repeat' first
   | (with_reducible exact ih0 _ _ _ _ _ _ _ _)
   | (with_reducible exact LeO.refl _)
   | (with_reducible exact LeO.none _)
   | (with_reducible refine LeO.ite ?_ ?_)
   | (with_reducible refine LeO.bind ?_ (fun _ => ?_))
   | exact ih0 _ _ _ _ _ _ _ _
   | exact LeO.none _
   | refine LeO.ite ?_ ?_
   | refine LeO.bind ?_ (fun _ => ?_)
set_option maxHeartbeats 100000000 in
set_option maxRecDepth 100000 in
theorem api_Load__c47_.calls (k : Nat) (A0 : Option Addr) (c0 : Nat) (l0 : List (S43)) (B1_0_ : Nat) (a1_0 : ByteArray) (a1_1 : Int) (a1_2 : Int) (a1_3 : Int) (a1_4 : Int) (r : Int) (w : World) (hr0 : Kd.C k43 w A0 l0.length l0) (hc0 : l0.length ≤ c0) (hx1_0_ : w.heap[B1_0_]? = some (.cells #[.string a1_0,.int .i64 a1_1,.int .i64 a1_2,.int .i64 a1_3,.int .i64 a1_4] 43 (0,0))) (h : api_Load__c47_.f k l0 a1_0 a1_1 a1_2 a1_3 a1_4 = some r) :
  Calls Try.prog 62 #[.slice A0 l0.length c0,.func (.func 47) #[] #[.pointer (some ⟨B1_0_,0,none⟩)]] w fun e w' => e = .returned (.int .i64 r) ∧ Below w.heap.size w w' := by
 have hu43 := Try.underlying43
 have HR0 := Yd hr0
 have HC0 := Yd hc0
 clear hr0 hc0
 have BK110 := Yd hx1_0_
 clear hx1_0_
 have HB := Yd (Below.refl w.heap.size w)
 have H : (api_Load__c47_.l0 k l0 (l0.length : Int) 0 a1_0 a1_1 a1_2 a1_3 a1_4) = some r := h
 clear h
 have H' := Yd H
 clear H
 go_enter Try.func62,Try.ntmps62
 go_wp2
 go_loopg [8] k (fun kq v8 w' => ∃ (x8_1 : Int),v8 = .int .i64 x8_1 ∧ Aside0 (api_Load__c47_.l0 kq l0 (l0.length : Int) x8_1 a1_0 a1_1 a1_2 a1_3 a1_4 = some r) ∧ Aside0 (kq ≤ k) ∧ Aside0 (w'.heap[B1_0_]? = some (.cells #[.string a1_0,.int .i64 a1_1,.int .i64 a1_2,.int .i64 a1_3,.int .i64 a1_4] 43 (0,0))) ∧ Aside0 (Below w.heap.size w w'))
 case atStart => exact ⟨(0),Y12,H',⟨Nat.le_refl _⟩,⟨Y6 BK110.out⟩,⟨by repeat (first | (with_reducible first | exact HB.out | apply below_alloc | apply Y15 | apply below_drew1 | refine below_set ?_ GE110.out) | exact HB.out)⟩⟩
 case round =>
  clear H'
  try clear hx1
  try clear p2
  obtain ⟨x8_1,rfl,HA,HK1,BK110,HB⟩ := hrel
  cases gk with
  | zero => exact absurd HA.out (by simp [api_Load__c47_.l0])
  | succ k1 =>
   have H := HA.out
   clear HA
   simp only [api_Load__c47_.l0] at H
   by_cases c3 : x8_1 < (l0.length : Int)
   ·rw [if_pos c3] at H
    have c3b0 : decide (x8_1 < (l0.length : Int)) = true := decide_eq_true c3
    clear c3
    by_cases c4 : 0 ≤ x8_1
    case neg => rw [if_neg c4] at H;exact absurd H (by simp)
    rw [if_pos c4] at H
    have c4b0 : decide (0 ≤ x8_1) = true := decide_eq_true c4
    clear c4
    by_cases c5 : x8_1 < (l0.length : Int)
    case neg => rw [if_neg c5] at H;exact absurd H (by simp)
    rw [if_pos c5] at H
    have c5b0 : decide (x8_1 < (l0.length : Int)) = true := decide_eq_true c5
    clear c5
    replace H := Option.bind_eq_some_iff.mp H
    obtain ⟨t112,A60,H⟩ := H
    replace H : (if t112 = true then (some x8_1) else (api_Load__c47_.l0 k1 l0 (l0.length : Int) (wrap64 (x8_1 + 1)) a1_0 a1_1 a1_2 a1_3 a1_4)) = some r := H
    have A6 := Yd A60
    clear A60
    by_cases c7 : t112 = true
    ·subst c7
     have H1 : (some x8_1) = some r := by rw [if_pos rfl] at H;exact H
     clear H
     have H := H1
     clear H1
     obtain rfl := Option.some.inj H
     have p111 : 0 ≤ (x8_1 : Int) := Y9
     have q111 : x8_1 < (l0.length : Int) := Y9
     obtain ⟨ad111,e111,hx111_0,hx111_1,hx111_2,hx111_3,hx111_4⟩ := at_T43 HR0.out x8_1 p111 q111
     cases e111
     replace hx111_0 := Y10 HB.out hx111_0
     replace hx111_1 := Y10 HB.out hx111_1
     replace hx111_2 := Y10 HB.out hx111_2
     replace hx111_3 := Y10 HB.out hx111_3
     replace hx111_4 := Y10 HB.out hx111_4
     replace p111 := eq_true p111
     replace q111 := eq_true q111
     go_wp2_with (first | (go_at_call 47;(with_reducible refine (demand_Check_1_.calls ((rd_T43 l0 x8_1).f0) ((rd_T43 l0 x8_1).f1) ((rd_T43 l0 x8_1).f2) ((rd_T43 l0 x8_1).f3) ((rd_T43 l0 x8_1).f4) B1_0_ a1_0 a1_1 a1_2 a1_3 a1_4 true _ ?side1 A6.out).mono ?_);(case side1 => exact (Y6 BK110.out));rintro e w8 ⟨rfl,hb⟩;have n0_ := Yd (blk_below (g := B1_0_) (o := .cells #[.string a1_0,.int .i64 a1_1,.int .i64 a1_2,.int .i64 a1_3,.int .i64 a1_4] 43 (0,0)) (Y6 BK110.out) hb);have n1_ := Yd (below_step (by first | exact Y4 HB.out GE110.out | exact Y3 HB.out) hb);clear BK110;clear HB;have BK110 := n0_;have HB := n1_;clear n0_ n1_;(try clear hb);(try clear hb2);(try clear hk);(try clear hi)))
     go_ret
     exact ⟨by first | rfl | (simp [errW_none,errW_some] <;> rfl) | (simp [*,errW_none,errW_some] <;> rfl),by repeat (first | (with_reducible first | exact HB.out | apply below_alloc | apply Y15 | apply below_drew1 | refine below_set ?_ GE110.out) | exact HB.out)⟩
    ·replace c7 := Bool.eq_false_iff.mpr c7
     subst c7
     have H1 : (api_Load__c47_.l0 k1 l0 (l0.length : Int) (wrap64 (x8_1 + 1)) a1_0 a1_1 a1_2 a1_3 a1_4) = some r := by rw [if_neg (show ¬ (false = true) by decide)] at H;exact H
     clear H
     have H := H1
     clear H1
     have H' := Yd H
     clear H
     have p111 : 0 ≤ (x8_1 : Int) := Y9
     have q111 : x8_1 < (l0.length : Int) := Y9
     obtain ⟨ad111,e111,hx111_0,hx111_1,hx111_2,hx111_3,hx111_4⟩ := at_T43 HR0.out x8_1 p111 q111
     cases e111
     replace hx111_0 := Y10 HB.out hx111_0
     replace hx111_1 := Y10 HB.out hx111_1
     replace hx111_2 := Y10 HB.out hx111_2
     replace hx111_3 := Y10 HB.out hx111_3
     replace hx111_4 := Y10 HB.out hx111_4
     replace p111 := eq_true p111
     replace q111 := eq_true q111
     go_wp2_with (first | (go_at_call 47;(with_reducible refine (demand_Check_1_.calls ((rd_T43 l0 x8_1).f0) ((rd_T43 l0 x8_1).f1) ((rd_T43 l0 x8_1).f2) ((rd_T43 l0 x8_1).f3) ((rd_T43 l0 x8_1).f4) B1_0_ a1_0 a1_1 a1_2 a1_3 a1_4 false _ ?side1 A6.out).mono ?_);(case side1 => exact (Y6 BK110.out));rintro e w9 ⟨rfl,hb⟩;have n0_ := Yd (blk_below (g := B1_0_) (o := .cells #[.string a1_0,.int .i64 a1_1,.int .i64 a1_2,.int .i64 a1_3,.int .i64 a1_4] 43 (0,0)) (Y6 BK110.out) hb);have n1_ := Yd (below_step (by first | exact Y4 HB.out GE110.out | exact Y3 HB.out) hb);clear BK110;clear HB;have BK110 := n0_;have HB := n1_;clear n0_ n1_;(try clear hb);(try clear hb2);(try clear hk);(try clear hi)))
     go_roundg k1
     case measure => have := HK1.out;omega
     case rel => exact ⟨(wrap64 (x8_1 + 1)),Y12,H',⟨by have := HK1.out;omega⟩,⟨Y6 BK110.out⟩,⟨by repeat (first | (with_reducible first | exact HB.out | apply below_alloc | apply Y15 | apply below_drew1 | refine below_set ?_ GE110.out) | exact HB.out)⟩⟩
   ·rw [if_neg c3] at H
    have c3b0 : decide (x8_1 < (l0.length : Int)) = false := decide_eq_false c3
    clear c3
    obtain rfl := Option.some.inj H
    go_wp2
    go_ret
    exact ⟨by first | rfl | (simp [errW_none,errW_some] <;> rfl) | (simp [*,errW_none,errW_some] <;> rfl),by repeat (first | (with_reducible first | exact HB.out | apply below_alloc | apply Y15 | apply below_drew1 | refine below_set ?_ GE110.out) | exact HB.out)⟩
def api_Load__c47.f (k : Nat) (l0 : List (S43)) (a1_0 : ByteArray) (a1_1 : Int) (a1_2 : Int) (a1_3 : Int) (a1_4 : Int) : Option (Bool) := (api_Load__c47_.f k l0 a1_0 a1_1 a1_2 a1_3 a1_4).bind fun t114 => (some (decide (t114 ≥ 0)))
theorem api_Load__c47.mono : ∀ a0 a1 a2 a3 a4 a5 k,LeO (api_Load__c47.f k a0 a1 a2 a3 a4 a5) (api_Load__c47.f (k + 1) a0 a1 a2 a3 a4 a5) := by
 intro a0 a1 a2 a3 a4 a5 k
 unfold api_Load__c47.f
 repeat' first
   | (with_reducible exact api_Load__c47_.mono _ _ _ _ _ _ _)
   | (with_reducible exact LeO.refl _)
   | (with_reducible exact LeO.none _)
   | (with_reducible refine LeO.ite ?_ ?_)
   | (with_reducible refine LeO.bind ?_ (fun _ => ?_))
   | exact api_Load__c47_.mono _ _ _ _ _ _ _
   | exact LeO.none _
   | refine LeO.ite ?_ ?_
   | refine LeO.bind ?_ (fun _ => ?_)
set_option maxHeartbeats 100000000 in
set_option maxRecDepth 100000 in
theorem api_Load__c47.calls (k : Nat) (A0 : Option Addr) (c0 : Nat) (l0 : List (S43)) (B1_0_ : Nat) (a1_0 : ByteArray) (a1_1 : Int) (a1_2 : Int) (a1_3 : Int) (a1_4 : Int) (r : Bool) (w : World) (hr0 : Kd.C k43 w A0 l0.length l0) (hc0 : l0.length ≤ c0) (hx1_0_ : w.heap[B1_0_]? = some (.cells #[.string a1_0,.int .i64 a1_1,.int .i64 a1_2,.int .i64 a1_3,.int .i64 a1_4] 43 (0,0))) (h : api_Load__c47.f k l0 a1_0 a1_1 a1_2 a1_3 a1_4 = some r) :
  Calls Try.prog 46 #[.slice A0 l0.length c0,.func (.func 47) #[] #[.pointer (some ⟨B1_0_,0,none⟩)]] w fun e w' => e = .returned (.bool r) ∧ Below w.heap.size w w' := by
 have HR0 := Yd hr0
 have HC0 := Yd hc0
 clear hr0 hc0
 have BK113 := Yd hx1_0_
 clear hx1_0_
 have HB := Yd (Below.refl w.heap.size w)
 have H : ((api_Load__c47_.f k l0 a1_0 a1_1 a1_2 a1_3 a1_4).bind fun t114 => (some (decide (t114 ≥ 0)))) = some r := h
 clear h
 replace H := Option.bind_eq_some_iff.mp H
 obtain ⟨t114,A30,H⟩ := H
 replace H : (some (decide (t114 ≥ 0))) = some r := H
 have A3 := Yd A30
 clear A30
 obtain rfl := Option.some.inj H
 go_enter Try.func46,Try.ntmps46
 go_wp2_with (first | ((with_reducible refine gate_callee (f := 62) rfl ?_);refine goesL_ (some 7) rfl rfl Try.func62 (by kernel_rfl) rfl #[.slice A0 l0.length c0,.func (.func 47) #[] #[.pointer (some ⟨B1_0_,0,none⟩)]] rfl Y8 ?_;(with_reducible refine (api_Load__c47_.calls k _ _ l0 B1_0_ a1_0 a1_1 a1_2 a1_3 a1_4 t114 _ ?side1 ?side2 ?side3 A3.out).mono ?_);(case side1 => repeat (first | exact HR0.out | (with_reducible refine Kd.C_alloc ?_ _) | (with_reducible refine Kd.C_drewN ?_ _) | (with_reducible refine Kd.C_drew ?_)));(case side2 => exact HC0.out);(case side3 => exact (Y6 BK113.out));rintro e w4 ⟨rfl,hb⟩;refine ⟨_,rfl,?_⟩;have n0_ := Yd (blk_below (g := B1_0_) (o := .cells #[.string a1_0,.int .i64 a1_1,.int .i64 a1_2,.int .i64 a1_3,.int .i64 a1_4] 43 (0,0)) (Y6 BK113.out) hb);have n1_ := Yd (below_step (by first | exact Y4 HB.out GE113.out | exact Y3 HB.out) hb);clear BK113;clear HB;have BK113 := n0_;have HB := n1_;clear n0_ n1_;(try clear hb);(try clear hb2);(try clear hk);(try clear hi)))
 go_ret
 exact ⟨by first | rfl | (simp [errW_none,errW_some] <;> rfl) | (simp [*,errW_none,errW_some] <;> rfl),by repeat (first | (with_reducible first | exact HB.out | apply below_alloc | apply Y15 | apply below_drew1 | refine below_set ?_ GE113.out) | exact HB.out)⟩
end Go.Proofs.Ytcdjhdfjkfbgdaa.PD56
namespace Go.Proofs.Ytcdjhdfjkfbgdaa.PD56
open Go.RowKit Go.Proofs.YtcdjhdfjkfbgdaaW.PrintWords Go.Proofs.YtcdjhdfjkfbgdaaW.PrintLast Go.Proofs.YtcdjhdfjkfbgdaaW.PrintMore
attribute [local go_sem] max2_int min2_int max_two min_two max_three min_three max_four min_four   -- for this text's walks alone
mutual
def demand_Check.l0 : Nat → List (S43) → List (S43) → Int → Int → Option (Int)
 | 0,_,_,_,_ => none
 | k + 1,x0,x12,x13,x14 => if x14 < x13 then (if 0 ≤ x14 then (if x14 < (x12.length : Int) then ((lexer_Name.f k ((rd_T43 x12 x14).f0)).bind fun t117 => (if t117 = true then (demand_Check.l0 k x0 x12 x13 (wrap64 (x14 + 1))) else (some 4))) else (none)) else (none)) else (demand_Check.l1 k x0 x0 (x0.length : Int) 0)
def demand_Check.l1 : Nat → List (S43) → List (S43) → Int → Int → Option (Int)
 | 0,_,_,_,_ => none
 | k + 1,x0,x23,x24,x25 => if x25 < x24 then (if 0 ≤ x25 then (if x25 < (x23.length : Int) then (if x25 ≤ (x0.length : Int) then ((api_Load__c47.f k (x0.take (x25 : Int).toNat) ((rd_T43 x23 x25).f0) ((rd_T43 x23 x25).f1) ((rd_T43 x23 x25).f2) ((rd_T43 x23 x25).f3) ((rd_T43 x23 x25).f4)).bind fun t124 => (if t124 = true then (some 5) else (demand_Check.l1 k x0 x23 x24 (wrap64 (x25 + 1))))) else (none)) else (none)) else (none)) else (demand_Check.l2 k x0 (x0.length : Int) 0)
def demand_Check.l2 : Nat → List (S43) → Int → Int → Option (Int)
 | 0,_,_,_ => none
 | k + 1,x36,x37,x38 => if x38 < x37 then (if 0 ≤ x38 then (if x38 < (x36.length : Int) then ((demand_between_int.f ((rd_T43 x36 x38).f1) 1 100).bind fun t127 => (if t127 = true then ((demand_between_int64.f ((rd_T43 x36 x38).f2) 0 15625000000).bind fun t128 => (if t128 = true then ((demand_between_int.f ((rd_T43 x36 x38).f3) 0 86400).bind fun t129 => (if t129 = true then ((demand_between_int.f ((rd_T43 x36 x38).f4) 0 86400).bind fun t130 => (demand_Check.j3 k x36 x37 x38 (!t130))) else (demand_Check.j3 k x36 x37 x38 true))) else (demand_Check.j3 k x36 x37 x38 true))) else (demand_Check.j3 k x36 x37 x38 true))) else (none)) else (none)) else (some 0)
def demand_Check.j3 : Nat → List (S43) → Int → Int → Bool → Option (Int)
 | 0,_,_,_,_ => none
 | k + 1,x36,x37,x38,x63 => if x63 = true then (some 6) else (demand_Check.l2 k x36 x37 (wrap64 (x38 + 1)))
end
def demand_Check.f (k : Nat) (l0 : List (S43)) : Option (Int) := if (l0.length : Int) > 64 then (some 7) else (demand_Check.l0 k l0 l0 (l0.length : Int) 0)
theorem demand_Check.mono_l : ∀ k,(∀ y0 y1 y2 y3,LeO (demand_Check.l0 k y0 y1 y2 y3) (demand_Check.l0 (k + 1) y0 y1 y2 y3)) ∧ (∀ y0 y1 y2 y3,LeO (demand_Check.l1 k y0 y1 y2 y3) (demand_Check.l1 (k + 1) y0 y1 y2 y3)) ∧ (∀ y0 y1 y2,LeO (demand_Check.l2 k y0 y1 y2) (demand_Check.l2 (k + 1) y0 y1 y2)) ∧ (∀ y0 y1 y2 y3,LeO (demand_Check.j3 k y0 y1 y2 y3) (demand_Check.j3 (k + 1) y0 y1 y2 y3))
 | 0 => ⟨fun _ _ _ _ r h => by simp [demand_Check.l0] at h,fun _ _ _ _ r h => by simp [demand_Check.l1] at h,fun _ _ _ r h => by simp [demand_Check.l2] at h,fun _ _ _ _ r h => by simp [demand_Check.j3] at h⟩
 | k + 1 => by
  obtain ⟨ih0,ih1,ih2,ih3⟩ := demand_Check.mono_l k
  refine ⟨?_,?_,?_,?_⟩
  ·intro y0 y1 y2 y3
   unfold demand_Check.l0
   repeat' first
   | (with_reducible exact ih0 _ _ _ _)
   | (with_reducible exact ih1 _ _ _ _)
   | (with_reducible exact ih2 _ _ _)
   | (with_reducible exact ih3 _ _ _ _)
   | (with_reducible exact api_Load__c47.mono _ _ _ _ _ _ _)
   | (with_reducible exact lexer_Name.mono _ _)
   | (with_reducible exact LeO.refl _)
   | (with_reducible exact LeO.none _)
   | (with_reducible refine LeO.ite ?_ ?_)
   | (with_reducible refine LeO.bind ?_ (fun _ => ?_))
   | exact ih0 _ _ _ _
   | exact ih1 _ _ _ _
   | exact ih2 _ _ _
   | exact ih3 _ _ _ _
   | exact api_Load__c47.mono _ _ _ _ _ _ _
   | exact lexer_Name.mono _ _
   | exact LeO.none _
   | refine LeO.ite ?_ ?_
   | refine LeO.bind ?_ (fun _ => ?_)
  ·intro y0 y1 y2 y3
   unfold demand_Check.l1
   repeat' first
   | (with_reducible exact ih0 _ _ _ _)
   | (with_reducible exact ih1 _ _ _ _)
   | (with_reducible exact ih2 _ _ _)
   | (with_reducible exact ih3 _ _ _ _)
   | (with_reducible exact api_Load__c47.mono _ _ _ _ _ _ _)
   | (with_reducible exact lexer_Name.mono _ _)
   | (with_reducible exact LeO.refl _)
   | (with_reducible exact LeO.none _)
   | (with_reducible refine LeO.ite ?_ ?_)
   | (with_reducible refine LeO.bind ?_ (fun _ => ?_))
   | exact ih0 _ _ _ _
   | exact ih1 _ _ _ _
   | exact ih2 _ _ _
   | exact ih3 _ _ _ _
   | exact api_Load__c47.mono _ _ _ _ _ _ _
   | exact lexer_Name.mono _ _
   | exact LeO.none _
   | refine LeO.ite ?_ ?_
   | refine LeO.bind ?_ (fun _ => ?_)
  ·intro y0 y1 y2
   unfold demand_Check.l2
   repeat' first
   | (with_reducible exact ih0 _ _ _ _)
   | (with_reducible exact ih1 _ _ _ _)
   | (with_reducible exact ih2 _ _ _)
   | (with_reducible exact ih3 _ _ _ _)
   | (with_reducible exact api_Load__c47.mono _ _ _ _ _ _ _)
   | (with_reducible exact lexer_Name.mono _ _)
   | (with_reducible exact LeO.refl _)
   | (with_reducible exact LeO.none _)
   | (with_reducible refine LeO.ite ?_ ?_)
   | (with_reducible refine LeO.bind ?_ (fun _ => ?_))
   | exact ih0 _ _ _ _
   | exact ih1 _ _ _ _
   | exact ih2 _ _ _
   | exact ih3 _ _ _ _
   | exact api_Load__c47.mono _ _ _ _ _ _ _
   | exact lexer_Name.mono _ _
   | exact LeO.none _
   | refine LeO.ite ?_ ?_
   | refine LeO.bind ?_ (fun _ => ?_)
  ·intro y0 y1 y2 y3
   unfold demand_Check.j3
   repeat' first
   | (with_reducible exact ih0 _ _ _ _)
   | (with_reducible exact ih1 _ _ _ _)
   | (with_reducible exact ih2 _ _ _)
   | (with_reducible exact ih3 _ _ _ _)
   | (with_reducible exact api_Load__c47.mono _ _ _ _ _ _ _)
   | (with_reducible exact lexer_Name.mono _ _)
   | (with_reducible exact LeO.refl _)
   | (with_reducible exact LeO.none _)
   | (with_reducible refine LeO.ite ?_ ?_)
   | (with_reducible refine LeO.bind ?_ (fun _ => ?_))
   | exact ih0 _ _ _ _
   | exact ih1 _ _ _ _
   | exact ih2 _ _ _
   | exact ih3 _ _ _ _
   | exact api_Load__c47.mono _ _ _ _ _ _ _
   | exact lexer_Name.mono _ _
   | exact LeO.none _
   | refine LeO.ite ?_ ?_
   | refine LeO.bind ?_ (fun _ => ?_)
theorem demand_Check.mono : ∀ a0 k,LeO (demand_Check.f k a0) (demand_Check.f (k + 1) a0) := by
 intro a0 k
 obtain ⟨ih0,ih1,ih2,ih3⟩ := demand_Check.mono_l k
 unfold demand_Check.f
 repeat' first
   | (with_reducible exact ih0 _ _ _ _)
   | (with_reducible exact ih1 _ _ _ _)
   | (with_reducible exact ih2 _ _ _)
   | (with_reducible exact ih3 _ _ _ _)
   | (with_reducible exact api_Load__c47.mono _ _ _ _ _ _ _)
   | (with_reducible exact lexer_Name.mono _ _)
   | (with_reducible exact LeO.refl _)
   | (with_reducible exact LeO.none _)
   | (with_reducible refine LeO.ite ?_ ?_)
   | (with_reducible refine LeO.bind ?_ (fun _ => ?_))
   | exact ih0 _ _ _ _
   | exact ih1 _ _ _ _
   | exact ih2 _ _ _
   | exact ih3 _ _ _ _
   | exact api_Load__c47.mono _ _ _ _ _ _ _
   | exact lexer_Name.mono _ _
   | exact LeO.none _
   | refine LeO.ite ?_ ?_
   | refine LeO.bind ?_ (fun _ => ?_)
set_option maxHeartbeats 100000000 in
set_option maxRecDepth 100000 in
theorem demand_Check.calls (k : Nat) (A0 : Option Addr) (c0 : Nat) (l0 : List (S43)) (r : Int) (w : World) (hr0 : Kd.C k43 w A0 l0.length l0) (hc0 : l0.length ≤ c0) (h : demand_Check.f k l0 = some r) :
  Calls Try.prog 27 #[.slice A0 l0.length c0] w fun e w' => e = .returned (.int .i64 r) ∧ Below w.heap.size w w' := by
 have hu43 := Try.underlying43
 have HR0 := Yd hr0
 have HC0 := Yd hc0
 clear hr0 hc0
 have HB := Yd (Below.refl w.heap.size w)
 have H : (if (l0.length : Int) > 64 then (some 7) else (demand_Check.l0 k l0 l0 (l0.length : Int) 0)) = some r := h
 clear h
 by_cases c2 : (l0.length : Int) > 64
 ·rw [if_pos c2] at H
  have c2b0 : decide (64 < (l0.length : Int)) = true := decide_eq_true c2
  have c2b1 : decide (64 < l0.length) = true := decide_eq_true (by omega)
  clear c2
  obtain rfl := Option.some.inj H
  go_enter Try.func27,Try.ntmps27
  go_wp2
  go_ret
  exact ⟨by first | rfl | (simp [errW_none,errW_some] <;> rfl) | (simp [*,errW_none,errW_some] <;> rfl),Y3 HB.out⟩
 ·rw [if_neg c2] at H
  have c2b0 : decide (64 < (l0.length : Int)) = false := decide_eq_false c2
  have c2b1 : decide (64 < l0.length) = false := decide_eq_false (by omega)
  clear c2
  have H' := Yd H
  clear H
  go_enter Try.func27,Try.ntmps27
  go_wp2
  go_loopg [14] k (fun kq v14 w' => ∃ (x14_1 : Int),v14 = .int .i64 x14_1 ∧ Aside0 (demand_Check.l0 kq l0 l0 (l0.length : Int) x14_1 = some r) ∧ Aside0 (kq ≤ k) ∧ Aside0 (Below w.heap.size w w'))
  case atStart => exact ⟨(0),Y12,H',⟨Nat.le_refl _⟩,⟨Y3 HB.out⟩⟩
  case round =>
   clear H'
   try clear c2
   try clear c2b0
   try clear c2b1
   try clear p2
   obtain ⟨x14_1,rfl,HA,HK1,HB⟩ := hrel
   cases gk with
   | zero => exact absurd HA.out (by simp [demand_Check.l0])
   | succ k1 =>
    have H := HA.out
    clear HA
    simp only [demand_Check.l0] at H
    by_cases c3 : x14_1 < (l0.length : Int)
    ·rw [if_pos c3] at H
     have c3b0 : decide (x14_1 < (l0.length : Int)) = true := decide_eq_true c3
     clear c3
     by_cases c4 : 0 ≤ x14_1
     case neg => rw [if_neg c4] at H;exact absurd H (by simp)
     rw [if_pos c4] at H
     have c4b0 : decide (0 ≤ x14_1) = true := decide_eq_true c4
     clear c4
     by_cases c5 : x14_1 < (l0.length : Int)
     case neg => rw [if_neg c5] at H;exact absurd H (by simp)
     rw [if_pos c5] at H
     have c5b0 : decide (x14_1 < (l0.length : Int)) = true := decide_eq_true c5
     clear c5
     replace H := Option.bind_eq_some_iff.mp H
     obtain ⟨t117,A60,H⟩ := H
     replace H : (if t117 = true then (demand_Check.l0 k1 l0 l0 (l0.length : Int) (wrap64 (x14_1 + 1))) else (some 4)) = some r := H
     have A6 := Yd A60
     clear A60
     by_cases c7 : t117 = true
     ·subst c7
      have H1 : (demand_Check.l0 k1 l0 l0 (l0.length : Int) (wrap64 (x14_1 + 1))) = some r := by rw [if_pos rfl] at H;exact H
      clear H
      have H := H1
      clear H1
      have H' := Yd H
      clear H
      have p115 : 0 ≤ (x14_1 : Int) := Y9
      have q115 : x14_1 < (l0.length : Int) := Y9
      obtain ⟨ad115,e115,hx115_0,hx115_1,hx115_2,hx115_3,hx115_4⟩ := at_T43 HR0.out x14_1 p115 q115
      cases e115
      replace hx115_0 := Y10 HB.out hx115_0
      replace hx115_1 := Y10 HB.out hx115_1
      replace hx115_2 := Y10 HB.out hx115_2
      replace hx115_3 := Y10 HB.out hx115_3
      replace hx115_4 := Y10 HB.out hx115_4
      replace p115 := eq_true p115
      replace q115 := eq_true q115
      go_wp2_with (first | ((with_reducible refine gate_dst (N := 4) rfl ?_);refine box_event ?hg (N := 4) ?hd (cs := #[.string (⟨#[]⟩ : ByteArray),.int .i64 0,.int .i64 0,.int .i64 0,.int .i64 0]) (t := 43) ?hr ?_;(case hd => rfl);(case hg => rfl);(case hr => first | (go_simp;done) | (go_simp;rfl));intro gb116 hg w8 hbox hb;have n0_ := Yd (below_step (Y3 HB.out) hb);have n1_ := Yd (hbox);have n2_ := Yd ((by rw [hg];exact (below_size (Y3 HB.out)) : w.heap.size ≤ gb116));have n3_ := Yd ((by rw [hg];exact (below_size (Y3 HB.out)) : w.heap.size ≤ gb116));clear HB;have HB := n0_;have BK116 := n1_;have GW116 := n2_;have GE116 := n3_;clear n0_ n1_ n2_ n3_;clear hb hbox hg;have hcz9_0 : w8.cell? ⟨gb116,0,none⟩ = some (.string (⟨#[]⟩ : ByteArray)) := (blk_cell BK116.out 0).trans rfl;have hcz9_1 : w8.cell? ⟨gb116,1,none⟩ = some (.int .i64 0) := (blk_cell BK116.out 1).trans rfl;have hcz9_2 : w8.cell? ⟨gb116,2,none⟩ = some (.int .i64 0) := (blk_cell BK116.out 2).trans rfl;have hcz9_3 : w8.cell? ⟨gb116,3,none⟩ = some (.int .i64 0) := (blk_cell BK116.out 3).trans rfl;have hcz9_4 : w8.cell? ⟨gb116,4,none⟩ = some (.int .i64 0) := (blk_cell BK116.out 4).trans rfl;have hfz9_0 := blk_frozen BK116.out 0;have hfz9_1 := blk_frozen BK116.out 1;have hfz9_2 := blk_frozen BK116.out 2;have hfz9_3 := blk_frozen BK116.out 3;have hfz9_4 := blk_frozen BK116.out 4) | ((with_reducible refine gate_callee (f := 45) rfl ?_);refine goesL_ (some 20) rfl rfl Try.func45 (by kernel_rfl) rfl #[.string ((rd_T43 l0 x14_1).f0)] rfl Y8 ?_;(with_reducible refine (lexer_Name.calls k1 ((rd_T43 l0 x14_1).f0) true _ A6.out).mono ?_);rintro e w10 ⟨rfl,hb⟩;refine ⟨_,rfl,?_⟩;have n0_ := Yd (blk_below (g := gb116) (o := .cells #[.string ((rd_T43 l0 x14_1).f0),.int .i64 ((rd_T43 l0 x14_1).f1),.int .i64 ((rd_T43 l0 x14_1).f2),.int .i64 ((rd_T43 l0 x14_1).f3),.int .i64 ((rd_T43 l0 x14_1).f4)] 43 (0,0)) (by (with_reducible repeat (first | refine blk_drewN ?_ _ | refine blk_drew ?_ | refine blk_alloc ?_ _));refine blk_put (cs := #[.string ((rd_T43 l0 x14_1).f0),.int .i64 ((rd_T43 l0 x14_1).f1),.int .i64 ((rd_T43 l0 x14_1).f2),.int .i64 ((rd_T43 l0 x14_1).f3),.int .i64 0]) ?_ 4 _ rfl;(with_reducible repeat (first | refine blk_drewN ?_ _ | refine blk_drew ?_ | refine blk_alloc ?_ _));refine blk_put (cs := #[.string ((rd_T43 l0 x14_1).f0),.int .i64 ((rd_T43 l0 x14_1).f1),.int .i64 ((rd_T43 l0 x14_1).f2),.int .i64 0,.int .i64 0]) ?_ 3 _ rfl;(with_reducible repeat (first | refine blk_drewN ?_ _ | refine blk_drew ?_ | refine blk_alloc ?_ _));refine blk_put (cs := #[.string ((rd_T43 l0 x14_1).f0),.int .i64 ((rd_T43 l0 x14_1).f1),.int .i64 0,.int .i64 0,.int .i64 0]) ?_ 2 _ rfl;(with_reducible repeat (first | refine blk_drewN ?_ _ | refine blk_drew ?_ | refine blk_alloc ?_ _));refine blk_put (cs := #[.string ((rd_T43 l0 x14_1).f0),.int .i64 0,.int .i64 0,.int .i64 0,.int .i64 0]) ?_ 1 _ rfl;(with_reducible repeat (first | refine blk_drewN ?_ _ | refine blk_drew ?_ | refine blk_alloc ?_ _));refine blk_put (cs := #[.string (⟨#[]⟩ : ByteArray),.int .i64 0,.int .i64 0,.int .i64 0,.int .i64 0]) ?_ 0 _ rfl;(with_reducible repeat (first | refine blk_drewN ?_ _ | refine blk_drew ?_ | refine blk_alloc ?_ _));exact BK116.out) hb);have n1_ := Yd (below_step (by first | exact Y4 HB.out GE116.out | exact Y3 HB.out) hb);clear BK116;clear HB;have BK116 := n0_;have HB := n1_;clear n0_ n1_;(try clear hb);(try clear hb2);(try clear hk);(try clear hi)))
      go_roundg k1
      case measure => have := HK1.out;omega
      case rel => exact ⟨(wrap64 (x14_1 + 1)),Y12,H',⟨by have := HK1.out;omega⟩,⟨by repeat (first | (with_reducible first | exact HB.out | apply below_alloc | apply Y15 | apply below_drew1 | refine below_set ?_ GE116.out) | exact HB.out)⟩⟩
     ·replace c7 := Bool.eq_false_iff.mpr c7
      subst c7
      have H1 : (some 4) = some r := by rw [if_neg (show ¬ (false = true) by decide)] at H;exact H
      clear H
      have H := H1
      clear H1
      obtain rfl := Option.some.inj H
      have p115 : 0 ≤ (x14_1 : Int) := Y9
      have q115 : x14_1 < (l0.length : Int) := Y9
      obtain ⟨ad115,e115,hx115_0,hx115_1,hx115_2,hx115_3,hx115_4⟩ := at_T43 HR0.out x14_1 p115 q115
      cases e115
      replace hx115_0 := Y10 HB.out hx115_0
      replace hx115_1 := Y10 HB.out hx115_1
      replace hx115_2 := Y10 HB.out hx115_2
      replace hx115_3 := Y10 HB.out hx115_3
      replace hx115_4 := Y10 HB.out hx115_4
      replace p115 := eq_true p115
      replace q115 := eq_true q115
      go_wp2_with (first | ((with_reducible refine gate_dst (N := 4) rfl ?_);refine box_event ?hg (N := 4) ?hd (cs := #[.string (⟨#[]⟩ : ByteArray),.int .i64 0,.int .i64 0,.int .i64 0,.int .i64 0]) (t := 43) ?hr ?_;(case hd => rfl);(case hg => rfl);(case hr => first | (go_simp;done) | (go_simp;rfl));intro gb116 hg w11 hbox hb;have n0_ := Yd (below_step (Y3 HB.out) hb);have n1_ := Yd (hbox);have n2_ := Yd ((by rw [hg];exact (below_size (Y3 HB.out)) : w.heap.size ≤ gb116));have n3_ := Yd ((by rw [hg];exact (below_size (Y3 HB.out)) : w.heap.size ≤ gb116));clear HB;have HB := n0_;have BK116 := n1_;have GW116 := n2_;have GE116 := n3_;clear n0_ n1_ n2_ n3_;clear hb hbox hg;have hcz12_0 : w11.cell? ⟨gb116,0,none⟩ = some (.string (⟨#[]⟩ : ByteArray)) := (blk_cell BK116.out 0).trans rfl;have hcz12_1 : w11.cell? ⟨gb116,1,none⟩ = some (.int .i64 0) := (blk_cell BK116.out 1).trans rfl;have hcz12_2 : w11.cell? ⟨gb116,2,none⟩ = some (.int .i64 0) := (blk_cell BK116.out 2).trans rfl;have hcz12_3 : w11.cell? ⟨gb116,3,none⟩ = some (.int .i64 0) := (blk_cell BK116.out 3).trans rfl;have hcz12_4 : w11.cell? ⟨gb116,4,none⟩ = some (.int .i64 0) := (blk_cell BK116.out 4).trans rfl;have hfz12_0 := blk_frozen BK116.out 0;have hfz12_1 := blk_frozen BK116.out 1;have hfz12_2 := blk_frozen BK116.out 2;have hfz12_3 := blk_frozen BK116.out 3;have hfz12_4 := blk_frozen BK116.out 4) | ((with_reducible refine gate_callee (f := 45) rfl ?_);refine goesL_ (some 20) rfl rfl Try.func45 (by kernel_rfl) rfl #[.string ((rd_T43 l0 x14_1).f0)] rfl Y8 ?_;(with_reducible refine (lexer_Name.calls k1 ((rd_T43 l0 x14_1).f0) false _ A6.out).mono ?_);rintro e w13 ⟨rfl,hb⟩;refine ⟨_,rfl,?_⟩;have n0_ := Yd (blk_below (g := gb116) (o := .cells #[.string ((rd_T43 l0 x14_1).f0),.int .i64 ((rd_T43 l0 x14_1).f1),.int .i64 ((rd_T43 l0 x14_1).f2),.int .i64 ((rd_T43 l0 x14_1).f3),.int .i64 ((rd_T43 l0 x14_1).f4)] 43 (0,0)) (by (with_reducible repeat (first | refine blk_drewN ?_ _ | refine blk_drew ?_ | refine blk_alloc ?_ _));refine blk_put (cs := #[.string ((rd_T43 l0 x14_1).f0),.int .i64 ((rd_T43 l0 x14_1).f1),.int .i64 ((rd_T43 l0 x14_1).f2),.int .i64 ((rd_T43 l0 x14_1).f3),.int .i64 0]) ?_ 4 _ rfl;(with_reducible repeat (first | refine blk_drewN ?_ _ | refine blk_drew ?_ | refine blk_alloc ?_ _));refine blk_put (cs := #[.string ((rd_T43 l0 x14_1).f0),.int .i64 ((rd_T43 l0 x14_1).f1),.int .i64 ((rd_T43 l0 x14_1).f2),.int .i64 0,.int .i64 0]) ?_ 3 _ rfl;(with_reducible repeat (first | refine blk_drewN ?_ _ | refine blk_drew ?_ | refine blk_alloc ?_ _));refine blk_put (cs := #[.string ((rd_T43 l0 x14_1).f0),.int .i64 ((rd_T43 l0 x14_1).f1),.int .i64 0,.int .i64 0,.int .i64 0]) ?_ 2 _ rfl;(with_reducible repeat (first | refine blk_drewN ?_ _ | refine blk_drew ?_ | refine blk_alloc ?_ _));refine blk_put (cs := #[.string ((rd_T43 l0 x14_1).f0),.int .i64 0,.int .i64 0,.int .i64 0,.int .i64 0]) ?_ 1 _ rfl;(with_reducible repeat (first | refine blk_drewN ?_ _ | refine blk_drew ?_ | refine blk_alloc ?_ _));refine blk_put (cs := #[.string (⟨#[]⟩ : ByteArray),.int .i64 0,.int .i64 0,.int .i64 0,.int .i64 0]) ?_ 0 _ rfl;(with_reducible repeat (first | refine blk_drewN ?_ _ | refine blk_drew ?_ | refine blk_alloc ?_ _));exact BK116.out) hb);have n1_ := Yd (below_step (by first | exact Y4 HB.out GE116.out | exact Y3 HB.out) hb);clear BK116;clear HB;have BK116 := n0_;have HB := n1_;clear n0_ n1_;(try clear hb);(try clear hb2);(try clear hk);(try clear hi)))
      go_ret
      exact ⟨by first | rfl | (simp [errW_none,errW_some] <;> rfl) | (simp [*,errW_none,errW_some] <;> rfl),by repeat (first | (with_reducible first | exact HB.out | apply below_alloc | apply Y15 | apply below_drew1 | refine below_set ?_ GE116.out) | exact HB.out)⟩
    ·rw [if_neg c3] at H
     have c3b0 : decide (x14_1 < (l0.length : Int)) = false := decide_eq_false c3
     clear c3
     have H' := Yd H
     clear H
     go_wp2
     go_loopg [25] k1 (fun kq v25 w' => ∃ (x25_2 : Int),v25 = .int .i64 x25_2 ∧ Aside0 (demand_Check.l1 kq l0 l0 (l0.length : Int) x25_2 = some r) ∧ Aside0 (kq ≤ k1) ∧ Aside0 (Below w.heap.size w w'))
     case atStart => exact ⟨(0),Y12,H',⟨Nat.le_refl _⟩,⟨Y3 HB.out⟩⟩
     case round =>
      clear H'
      try clear p1
      try clear q1
      try clear hx1
      try clear c2
      try clear c2b0
      try clear c2b1
      try clear p2
      try clear c3
      try clear c3b0
      try clear c4
      try clear c4b0
      try clear c5
      try clear c5b0
      try clear p6
      try clear c7
      try clear p11
      try clear q11
      try clear hx11
      try clear hcz12_0
      try clear hcz12_1
      try clear hcz12_2
      try clear hcz12_3
      try clear hcz12_4
      try clear hcz9_0
      try clear hcz9_1
      try clear hcz9_2
      try clear hcz9_3
      try clear hcz9_4
      try clear hfz12_0
      try clear hfz12_1
      try clear hfz12_2
      try clear hfz12_3
      try clear hfz12_4
      try clear hfz9_0
      try clear hfz9_1
      try clear hfz9_2
      try clear hfz9_3
      try clear hfz9_4
      try clear hx115_0
      try clear hx115_1
      try clear hx115_2
      try clear hx115_3
      try clear hx115_4
      try clear p115
      try clear p2
      try clear q115
      obtain ⟨x25_2,rfl,HA,HK2,HB⟩ := hrel
      cases gk with
      | zero => exact absurd HA.out (by simp [demand_Check.l1])
      | succ k2 =>
       have H := HA.out
       clear HA
       simp only [demand_Check.l1] at H
       by_cases c14 : x25_2 < (l0.length : Int)
       ·rw [if_pos c14] at H
        have c14b0 : decide (x25_2 < (l0.length : Int)) = true := decide_eq_true c14
        clear c14
        by_cases c15 : 0 ≤ x25_2
        case neg => rw [if_neg c15] at H;exact absurd H (by simp)
        rw [if_pos c15] at H
        have c15b0 : decide (0 ≤ x25_2) = true := decide_eq_true c15
        clear c15
        by_cases c16 : x25_2 < (l0.length : Int)
        case neg => rw [if_neg c16] at H;exact absurd H (by simp)
        rw [if_pos c16] at H
        have c16b0 : decide (x25_2 < (l0.length : Int)) = true := decide_eq_true c16
        clear c16
        have c17b0 := eq_true (Y9 : 0 ≤ x25_2)
        by_cases c18 : x25_2 ≤ (l0.length : Int)
        case neg => rw [if_neg c18] at H;exact absurd H (by simp)
        rw [if_pos c18] at H
        have c18b0 := eq_true c18
        have c18b1 : decide (x25_2 ≤ (l0.length : Int)) = true := decide_eq_true c18
        clear c18
        obtain ⟨y120,hy120⟩ : ∃ y_ : List (S43),y_ = (l0.take (x25_2 : Int).toNat) := ⟨_,rfl⟩
        replace H : ((api_Load__c47.f k2 y120 ((rd_T43 l0 x25_2).f0) ((rd_T43 l0 x25_2).f1) ((rd_T43 l0 x25_2).f2) ((rd_T43 l0 x25_2).f3) ((rd_T43 l0 x25_2).f4)).bind fun t124 => (if t124 = true then (some 5) else (demand_Check.l1 k2 l0 l0 (l0.length : Int) (wrap64 (x25_2 + 1))))) = some r := by first | (rw [hy120];with_reducible exact H) | (have H2_ := (Option.bind_some _ _).symm.trans H;rw [hy120];with_reducible exact H2_) | (have H2_ := (Option.bind_some _ _).symm.trans H;with_reducible exact H2_) | with_reducible exact H | (rw [hy120];exact H) | exact H
        have Ny120 := Yd hy120
        clear hy120
        replace H := Option.bind_eq_some_iff.mp H
        obtain ⟨t124,A190,H⟩ := H
        replace H : (if t124 = true then (some 5) else (demand_Check.l1 k2 l0 l0 (l0.length : Int) (wrap64 (x25_2 + 1)))) = some r := H
        have A19 := Yd A190
        clear A190
        by_cases c20 : t124 = true
        ·subst c20
         have H1 : (some 5) = some r := by rw [if_pos rfl] at H;exact H
         clear H
         have H := H1
         clear H1
         obtain rfl := Option.some.inj H
         have p118 : 0 ≤ (x25_2 : Int) := Y9
         have q118 : x25_2 < (l0.length : Int) := Y9
         obtain ⟨ad118,e118,hx118_0,hx118_1,hx118_2,hx118_3,hx118_4⟩ := at_T43 HR0.out x25_2 p118 q118
         cases e118
         replace hx118_0 := Y10 HB.out hx118_0
         replace hx118_1 := Y10 HB.out hx118_1
         replace hx118_2 := Y10 HB.out hx118_2
         replace hx118_3 := Y10 HB.out hx118_3
         replace hx118_4 := Y10 HB.out hx118_4
         replace p118 := eq_true p118
         replace q118 := eq_true q118
         go_wp2_with (first | ((with_reducible refine gate_dst (N := 6) rfl ?_);refine box_event ?hg (N := 6) ?hd (cs := #[.string (⟨#[]⟩ : ByteArray),.int .i64 0,.int .i64 0,.int .i64 0,.int .i64 0]) (t := 43) ?hr ?_;(case hd => rfl);(case hg => rfl);(case hr => first | (go_simp;done) | (go_simp;rfl));intro gb119 hg w21 hbox hb;have n0_ := Yd (below_step (Y3 HB.out) hb);have n1_ := Yd (hbox);have n2_ := Yd ((by rw [hg];exact (below_size (Y3 HB.out)) : w.heap.size ≤ gb119));have n3_ := Yd ((by rw [hg];exact (below_size (Y3 HB.out)) : w.heap.size ≤ gb119));clear HB;have HB := n0_;have BK119 := n1_;have GW119 := n2_;have GE119 := n3_;clear n0_ n1_ n2_ n3_;clear hb hbox hg;have hcz22_0 : w21.cell? ⟨gb119,0,none⟩ = some (.string (⟨#[]⟩ : ByteArray)) := (blk_cell BK119.out 0).trans rfl;have hcz22_1 : w21.cell? ⟨gb119,1,none⟩ = some (.int .i64 0) := (blk_cell BK119.out 1).trans rfl;have hcz22_2 : w21.cell? ⟨gb119,2,none⟩ = some (.int .i64 0) := (blk_cell BK119.out 2).trans rfl;have hcz22_3 : w21.cell? ⟨gb119,3,none⟩ = some (.int .i64 0) := (blk_cell BK119.out 3).trans rfl;have hcz22_4 : w21.cell? ⟨gb119,4,none⟩ = some (.int .i64 0) := (blk_cell BK119.out 4).trans rfl;have hfz22_0 := blk_frozen BK119.out 0;have hfz22_1 := blk_frozen BK119.out 1;have hfz22_2 := blk_frozen BK119.out 2;have hfz22_3 := blk_frozen BK119.out 3;have hfz22_4 := blk_frozen BK119.out 4) | ((with_reducible refine gate_store (t := 43) (p := 6) rfl ?_);refine store_event (t := 43) (p := 6) (v := ?vo_w23) (w1 := (((((w21.setCell ⟨gb119,0,none⟩ (.string ((rd_T43 l0 x25_2).f0))).setCell ⟨gb119,1,none⟩ (.int .i64 ((rd_T43 l0 x25_2).f1))).setCell ⟨gb119,2,none⟩ (.int .i64 ((rd_T43 l0 x25_2).f2))).setCell ⟨gb119,3,none⟩ (.int .i64 ((rd_T43 l0 x25_2).f3))).setCell ⟨gb119,4,none⟩ (.int .i64 ((rd_T43 l0 x25_2).f4)))) ?hg ?ho ?hn ?hr ?_;(case ho => rfl);(case hg => rfl);(case hn => rfl);(case hr => first | (go_simp;done) | (go_simp;rfl));intro w23 hw;have n0_ : Aside0 (w23.heap[gb119]? = some (.cells #[.string ((rd_T43 l0 x25_2).f0),.int .i64 ((rd_T43 l0 x25_2).f1),.int .i64 ((rd_T43 l0 x25_2).f2),.int .i64 ((rd_T43 l0 x25_2).f3),.int .i64 ((rd_T43 l0 x25_2).f4)] 43 (0,0))) := ⟨(by rw [hw];exact (by (with_reducible repeat (first | refine blk_drewN ?_ _ | refine blk_drew ?_ | refine blk_alloc ?_ _));refine blk_put (cs := #[.string ((rd_T43 l0 x25_2).f0),.int .i64 ((rd_T43 l0 x25_2).f1),.int .i64 ((rd_T43 l0 x25_2).f2),.int .i64 ((rd_T43 l0 x25_2).f3),.int .i64 0]) ?_ 4 _ rfl;(with_reducible repeat (first | refine blk_drewN ?_ _ | refine blk_drew ?_ | refine blk_alloc ?_ _));refine blk_put (cs := #[.string ((rd_T43 l0 x25_2).f0),.int .i64 ((rd_T43 l0 x25_2).f1),.int .i64 ((rd_T43 l0 x25_2).f2),.int .i64 0,.int .i64 0]) ?_ 3 _ rfl;(with_reducible repeat (first | refine blk_drewN ?_ _ | refine blk_drew ?_ | refine blk_alloc ?_ _));refine blk_put (cs := #[.string ((rd_T43 l0 x25_2).f0),.int .i64 ((rd_T43 l0 x25_2).f1),.int .i64 0,.int .i64 0,.int .i64 0]) ?_ 2 _ rfl;(with_reducible repeat (first | refine blk_drewN ?_ _ | refine blk_drew ?_ | refine blk_alloc ?_ _));refine blk_put (cs := #[.string ((rd_T43 l0 x25_2).f0),.int .i64 0,.int .i64 0,.int .i64 0,.int .i64 0]) ?_ 1 _ rfl;(with_reducible repeat (first | refine blk_drewN ?_ _ | refine blk_drew ?_ | refine blk_alloc ?_ _));refine blk_put (cs := #[.string (⟨#[]⟩ : ByteArray),.int .i64 0,.int .i64 0,.int .i64 0,.int .i64 0]) ?_ 0 _ rfl;(with_reducible repeat (first | refine blk_drewN ?_ _ | refine blk_drew ?_ | refine blk_alloc ?_ _));exact BK119.out))⟩;have n1_ : Aside0 (Below w.heap.size w w23) := ⟨(by rw [hw];exact (by first | exact Y4 HB.out GE119.out | exact Y3 HB.out))⟩;clear hw;clear BK119;clear HB;have BK119 := n0_;have HB := n1_;clear n0_ n1_;have q24 : (x25_2 : Int) ≤ ((l0.length : Int) : Int) := Y9;obtain ⟨i024,hi024,_,hsz24,_⟩ := info_parts info43;have hroom24 : l0.length ≤ c0 := HC0.out;have hC24 : Kd.C k43 _ (some ad118) l0.length l0 := HR0.out;have hcut24 := cut_to (P := Try.prog) 22 43 .i64 Try.underlying22 hi024 (some ad118) l0.length c0 x25_2 (Y9) q24 hroom24;have hr24 := Kd.C_take (m := (x25_2 : Int).toNat) hC24 (by omega);have hy24 : y120.length = (x25_2 : Int).toNat := (by rw [Ny120.out,List.length_take];omega);rw [← Ny120.out] at hr24;rw [← hy24] at hcut24;have HR123 := Yd hr24;have HC123 := Yd (show y120.length ≤ c0 from by omega);clear hr24 hC24 hroom24 hi024 hsz24;have KY24 := Yd hy24;clear hy24;replace q24 := eq_true q24) | ((with_reducible refine gate_callee (f := 46) rfl ?_);refine goesL_ (some 34) rfl rfl Try.func46 (by kernel_rfl) rfl #[.slice (some ad118) y120.length c0,.func (.func 47) #[] #[.pointer (some ⟨gb119,0,none⟩)]] rfl Y8 ?_;(with_reducible refine (api_Load__c47.calls k2 _ _ y120 gb119 ((rd_T43 l0 x25_2).f0) ((rd_T43 l0 x25_2).f1) ((rd_T43 l0 x25_2).f2) ((rd_T43 l0 x25_2).f3) ((rd_T43 l0 x25_2).f4) true _ ?side1 ?side2 ?side3 A19.out).mono ?_);(case side1 => exact Y11 (Kd.C_below HR123.out HB.out));(case side2 => exact HC123.out);(case side3 => exact (Y6 BK119.out));rintro e w25 ⟨rfl,hb⟩;refine ⟨_,rfl,?_⟩;have n0_ := Yd (blk_below (g := gb119) (o := .cells #[.string ((rd_T43 l0 x25_2).f0),.int .i64 ((rd_T43 l0 x25_2).f1),.int .i64 ((rd_T43 l0 x25_2).f2),.int .i64 ((rd_T43 l0 x25_2).f3),.int .i64 ((rd_T43 l0 x25_2).f4)] 43 (0,0)) (Y6 BK119.out) hb);have n1_ := Yd (below_step (by first | exact Y4 HB.out GE119.out | exact Y3 HB.out) hb);clear BK119;clear HB;have BK119 := n0_;have HB := n1_;clear n0_ n1_;(try clear hb);(try clear hb2);(try clear hk);(try clear hi)))
         go_ret
         exact ⟨by first | rfl | (simp [errW_none,errW_some] <;> rfl) | (simp [*,errW_none,errW_some] <;> rfl),by repeat (first | (with_reducible first | exact HB.out | apply below_alloc | apply Y15 | apply below_drew1 | refine below_set ?_ GE119.out) | exact HB.out)⟩
        ·replace c20 := Bool.eq_false_iff.mpr c20
         subst c20
         have H1 : (demand_Check.l1 k2 l0 l0 (l0.length : Int) (wrap64 (x25_2 + 1))) = some r := by rw [if_neg (show ¬ (false = true) by decide)] at H;exact H
         clear H
         have H := H1
         clear H1
         have H' := Yd H
         clear H
         have p118 : 0 ≤ (x25_2 : Int) := Y9
         have q118 : x25_2 < (l0.length : Int) := Y9
         obtain ⟨ad118,e118,hx118_0,hx118_1,hx118_2,hx118_3,hx118_4⟩ := at_T43 HR0.out x25_2 p118 q118
         cases e118
         replace hx118_0 := Y10 HB.out hx118_0
         replace hx118_1 := Y10 HB.out hx118_1
         replace hx118_2 := Y10 HB.out hx118_2
         replace hx118_3 := Y10 HB.out hx118_3
         replace hx118_4 := Y10 HB.out hx118_4
         replace p118 := eq_true p118
         replace q118 := eq_true q118
         go_wp2_with (first | ((with_reducible refine gate_dst (N := 6) rfl ?_);refine box_event ?hg (N := 6) ?hd (cs := #[.string (⟨#[]⟩ : ByteArray),.int .i64 0,.int .i64 0,.int .i64 0,.int .i64 0]) (t := 43) ?hr ?_;(case hd => rfl);(case hg => rfl);(case hr => first | (go_simp;done) | (go_simp;rfl));intro gb119 hg w26 hbox hb;have n0_ := Yd (below_step (Y3 HB.out) hb);have n1_ := Yd (hbox);have n2_ := Yd ((by rw [hg];exact (below_size (Y3 HB.out)) : w.heap.size ≤ gb119));have n3_ := Yd ((by rw [hg];exact (below_size (Y3 HB.out)) : w.heap.size ≤ gb119));clear HB;have HB := n0_;have BK119 := n1_;have GW119 := n2_;have GE119 := n3_;clear n0_ n1_ n2_ n3_;clear hb hbox hg;have hcz27_0 : w26.cell? ⟨gb119,0,none⟩ = some (.string (⟨#[]⟩ : ByteArray)) := (blk_cell BK119.out 0).trans rfl;have hcz27_1 : w26.cell? ⟨gb119,1,none⟩ = some (.int .i64 0) := (blk_cell BK119.out 1).trans rfl;have hcz27_2 : w26.cell? ⟨gb119,2,none⟩ = some (.int .i64 0) := (blk_cell BK119.out 2).trans rfl;have hcz27_3 : w26.cell? ⟨gb119,3,none⟩ = some (.int .i64 0) := (blk_cell BK119.out 3).trans rfl;have hcz27_4 : w26.cell? ⟨gb119,4,none⟩ = some (.int .i64 0) := (blk_cell BK119.out 4).trans rfl;have hfz27_0 := blk_frozen BK119.out 0;have hfz27_1 := blk_frozen BK119.out 1;have hfz27_2 := blk_frozen BK119.out 2;have hfz27_3 := blk_frozen BK119.out 3;have hfz27_4 := blk_frozen BK119.out 4) | ((with_reducible refine gate_store (t := 43) (p := 6) rfl ?_);refine store_event (t := 43) (p := 6) (v := ?vo_w28) (w1 := (((((w26.setCell ⟨gb119,0,none⟩ (.string ((rd_T43 l0 x25_2).f0))).setCell ⟨gb119,1,none⟩ (.int .i64 ((rd_T43 l0 x25_2).f1))).setCell ⟨gb119,2,none⟩ (.int .i64 ((rd_T43 l0 x25_2).f2))).setCell ⟨gb119,3,none⟩ (.int .i64 ((rd_T43 l0 x25_2).f3))).setCell ⟨gb119,4,none⟩ (.int .i64 ((rd_T43 l0 x25_2).f4)))) ?hg ?ho ?hn ?hr ?_;(case ho => rfl);(case hg => rfl);(case hn => rfl);(case hr => first | (go_simp;done) | (go_simp;rfl));intro w28 hw;have n0_ : Aside0 (w28.heap[gb119]? = some (.cells #[.string ((rd_T43 l0 x25_2).f0),.int .i64 ((rd_T43 l0 x25_2).f1),.int .i64 ((rd_T43 l0 x25_2).f2),.int .i64 ((rd_T43 l0 x25_2).f3),.int .i64 ((rd_T43 l0 x25_2).f4)] 43 (0,0))) := ⟨(by rw [hw];exact (by (with_reducible repeat (first | refine blk_drewN ?_ _ | refine blk_drew ?_ | refine blk_alloc ?_ _));refine blk_put (cs := #[.string ((rd_T43 l0 x25_2).f0),.int .i64 ((rd_T43 l0 x25_2).f1),.int .i64 ((rd_T43 l0 x25_2).f2),.int .i64 ((rd_T43 l0 x25_2).f3),.int .i64 0]) ?_ 4 _ rfl;(with_reducible repeat (first | refine blk_drewN ?_ _ | refine blk_drew ?_ | refine blk_alloc ?_ _));refine blk_put (cs := #[.string ((rd_T43 l0 x25_2).f0),.int .i64 ((rd_T43 l0 x25_2).f1),.int .i64 ((rd_T43 l0 x25_2).f2),.int .i64 0,.int .i64 0]) ?_ 3 _ rfl;(with_reducible repeat (first | refine blk_drewN ?_ _ | refine blk_drew ?_ | refine blk_alloc ?_ _));refine blk_put (cs := #[.string ((rd_T43 l0 x25_2).f0),.int .i64 ((rd_T43 l0 x25_2).f1),.int .i64 0,.int .i64 0,.int .i64 0]) ?_ 2 _ rfl;(with_reducible repeat (first | refine blk_drewN ?_ _ | refine blk_drew ?_ | refine blk_alloc ?_ _));refine blk_put (cs := #[.string ((rd_T43 l0 x25_2).f0),.int .i64 0,.int .i64 0,.int .i64 0,.int .i64 0]) ?_ 1 _ rfl;(with_reducible repeat (first | refine blk_drewN ?_ _ | refine blk_drew ?_ | refine blk_alloc ?_ _));refine blk_put (cs := #[.string (⟨#[]⟩ : ByteArray),.int .i64 0,.int .i64 0,.int .i64 0,.int .i64 0]) ?_ 0 _ rfl;(with_reducible repeat (first | refine blk_drewN ?_ _ | refine blk_drew ?_ | refine blk_alloc ?_ _));exact BK119.out))⟩;have n1_ : Aside0 (Below w.heap.size w w28) := ⟨(by rw [hw];exact (by first | exact Y4 HB.out GE119.out | exact Y3 HB.out))⟩;clear hw;clear BK119;clear HB;have BK119 := n0_;have HB := n1_;clear n0_ n1_;have q29 : (x25_2 : Int) ≤ ((l0.length : Int) : Int) := Y9;obtain ⟨i029,hi029,_,hsz29,_⟩ := info_parts info43;have hroom29 : l0.length ≤ c0 := HC0.out;have hC29 : Kd.C k43 _ (some ad118) l0.length l0 := HR0.out;have hcut29 := cut_to (P := Try.prog) 22 43 .i64 Try.underlying22 hi029 (some ad118) l0.length c0 x25_2 (Y9) q29 hroom29;have hr29 := Kd.C_take (m := (x25_2 : Int).toNat) hC29 (by omega);have hy29 : y120.length = (x25_2 : Int).toNat := (by rw [Ny120.out,List.length_take];omega);rw [← Ny120.out] at hr29;rw [← hy29] at hcut29;have HR123 := Yd hr29;have HC123 := Yd (show y120.length ≤ c0 from by omega);clear hr29 hC29 hroom29 hi029 hsz29;have KY29 := Yd hy29;clear hy29;replace q29 := eq_true q29) | ((with_reducible refine gate_callee (f := 46) rfl ?_);refine goesL_ (some 34) rfl rfl Try.func46 (by kernel_rfl) rfl #[.slice (some ad118) y120.length c0,.func (.func 47) #[] #[.pointer (some ⟨gb119,0,none⟩)]] rfl Y8 ?_;(with_reducible refine (api_Load__c47.calls k2 _ _ y120 gb119 ((rd_T43 l0 x25_2).f0) ((rd_T43 l0 x25_2).f1) ((rd_T43 l0 x25_2).f2) ((rd_T43 l0 x25_2).f3) ((rd_T43 l0 x25_2).f4) false _ ?side1 ?side2 ?side3 A19.out).mono ?_);(case side1 => exact Y11 (Kd.C_below HR123.out HB.out));(case side2 => exact HC123.out);(case side3 => exact (Y6 BK119.out));rintro e w30 ⟨rfl,hb⟩;refine ⟨_,rfl,?_⟩;have n0_ := Yd (blk_below (g := gb119) (o := .cells #[.string ((rd_T43 l0 x25_2).f0),.int .i64 ((rd_T43 l0 x25_2).f1),.int .i64 ((rd_T43 l0 x25_2).f2),.int .i64 ((rd_T43 l0 x25_2).f3),.int .i64 ((rd_T43 l0 x25_2).f4)] 43 (0,0)) (Y6 BK119.out) hb);have n1_ := Yd (below_step (by first | exact Y4 HB.out GE119.out | exact Y3 HB.out) hb);clear BK119;clear HB;have BK119 := n0_;have HB := n1_;clear n0_ n1_;(try clear hb);(try clear hb2);(try clear hk);(try clear hi)))
         go_roundg k2
         case measure => have := HK1.out;have := HK2.out;omega
         case rel => exact ⟨(wrap64 (x25_2 + 1)),Y12,H',⟨by have := HK1.out;have := HK2.out;omega⟩,⟨by repeat (first | (with_reducible first | exact HB.out | apply below_alloc | apply Y15 | apply below_drew1 | refine below_set ?_ GE119.out) | exact HB.out)⟩⟩
       ·rw [if_neg c14] at H
        have c14b0 : decide (x25_2 < (l0.length : Int)) = false := decide_eq_false c14
        clear c14
        have H' := Yd H
        clear H
        go_wp2
        go_loopg [38] k2 (fun kq v38 w' => ∃ (x38_3 : Int),v38 = .int .i64 x38_3 ∧ Aside0 (demand_Check.l2 kq l0 (l0.length : Int) x38_3 = some r) ∧ Aside0 (kq ≤ k2) ∧ Aside0 (Below w.heap.size w w'))
        case atStart => exact ⟨(0),Y12,H',⟨Nat.le_refl _⟩,⟨Y3 HB.out⟩⟩
        case round =>
         clear H'
         try clear c1
         try clear p1
         try clear q1
         try clear hx1
         try clear c2
         try clear c2b0
         try clear c2b1
         try clear p2
         try clear q2
         try clear c3
         try clear c3b0
         try clear c4
         try clear c4b0
         try clear c5
         try clear c5b0
         try clear p6
         try clear c7
         try clear p11
         try clear q11
         try clear hx11
         try clear c14
         try clear c14b0
         try clear c15
         try clear c15b0
         try clear c16
         try clear c16b0
         try clear c17
         try clear c17b0
         try clear c18
         try clear c18b0
         try clear c18b1
         try clear c20
         try clear q24
         try clear c27
         try clear q29
         try clear hcz12_0
         try clear hcz12_1
         try clear hcz12_2
         try clear hcz12_3
         try clear hcz12_4
         try clear hcz22_0
         try clear hcz22_1
         try clear hcz22_2
         try clear hcz22_3
         try clear hcz22_4
         try clear hcz27_0
         try clear hcz27_1
         try clear hcz27_2
         try clear hcz27_3
         try clear hcz27_4
         try clear hcz9_0
         try clear hcz9_1
         try clear hcz9_2
         try clear hcz9_3
         try clear hcz9_4
         try clear hfz12_0
         try clear hfz12_1
         try clear hfz12_2
         try clear hfz12_3
         try clear hfz12_4
         try clear hfz22_0
         try clear hfz22_1
         try clear hfz22_2
         try clear hfz22_3
         try clear hfz22_4
         try clear hfz27_0
         try clear hfz27_1
         try clear hfz27_2
         try clear hfz27_3
         try clear hfz27_4
         try clear hfz9_0
         try clear hfz9_1
         try clear hfz9_2
         try clear hfz9_3
         try clear hfz9_4
         try clear hx115_0
         try clear hx115_1
         try clear hx115_2
         try clear hx115_3
         try clear hx115_4
         try clear hx118_0
         try clear hx118_1
         try clear hx118_2
         try clear hx118_3
         try clear hx118_4
         try clear p1
         try clear p11
         try clear p115
         try clear p118
         try clear p2
         try clear p6
         try clear q1
         try clear q11
         try clear q115
         try clear q118
         try clear q24
         try clear q29
         obtain ⟨x38_3,rfl,HA,HK3,HB⟩ := hrel
         cases gk with
         | zero => exact absurd HA.out (by simp [demand_Check.l2])
         | succ k3 =>
          have H := HA.out
          clear HA
          simp only [demand_Check.l2] at H
          by_cases c31 : x38_3 < (l0.length : Int)
          ·rw [if_pos c31] at H
           have c31b0 : decide (x38_3 < (l0.length : Int)) = true := decide_eq_true c31
           clear c31
           by_cases c32 : 0 ≤ x38_3
           case neg => rw [if_neg c32] at H;exact absurd H (by simp)
           rw [if_pos c32] at H
           have c32b0 : decide (0 ≤ x38_3) = true := decide_eq_true c32
           clear c32
           by_cases c33 : x38_3 < (l0.length : Int)
           case neg => rw [if_neg c33] at H;exact absurd H (by simp)
           rw [if_pos c33] at H
           have c33b0 : decide (x38_3 < (l0.length : Int)) = true := decide_eq_true c33
           clear c33
           have HC34 := Yd H
           clear H
           have p125 : 0 ≤ (x38_3 : Int) := Y9
           have q125 : x38_3 < (l0.length : Int) := Y9
           obtain ⟨ad125,e125,hx125_0,hx125_1,hx125_2,hx125_3,hx125_4⟩ := at_T43 HR0.out x38_3 p125 q125
           cases e125
           replace hx125_0 := Y10 HB.out hx125_0
           replace hx125_1 := Y10 HB.out hx125_1
           replace hx125_2 := Y10 HB.out hx125_2
           replace hx125_3 := Y10 HB.out hx125_3
           replace hx125_4 := Y10 HB.out hx125_4
           replace p125 := eq_true p125
           replace q125 := eq_true q125
           go_upto_region 18 with (first | ((with_reducible refine gate_dst (N := 8) rfl ?_);refine box_event ?hg (N := 8) ?hd (cs := #[.string (⟨#[]⟩ : ByteArray),.int .i64 0,.int .i64 0,.int .i64 0,.int .i64 0]) (t := 43) ?hr ?_;(case hd => rfl);(case hg => rfl);(case hr => first | (go_simp;done) | (go_simp;rfl));intro gb126 hg w35 hbox hb;have n0_ := Yd (below_step (Y3 HB.out) hb);have n1_ := Yd (hbox);have n2_ := Yd ((by rw [hg];exact (below_size (Y3 HB.out)) : w.heap.size ≤ gb126));have n3_ := Yd ((by rw [hg];exact (below_size (Y3 HB.out)) : w.heap.size ≤ gb126));clear HB;have HB := n0_;have BK126 := n1_;have GW126 := n2_;have GE126 := n3_;clear n0_ n1_ n2_ n3_;clear hb hbox hg;have hcz36_0 : w35.cell? ⟨gb126,0,none⟩ = some (.string (⟨#[]⟩ : ByteArray)) := (blk_cell BK126.out 0).trans rfl;have hcz36_1 : w35.cell? ⟨gb126,1,none⟩ = some (.int .i64 0) := (blk_cell BK126.out 1).trans rfl;have hcz36_2 : w35.cell? ⟨gb126,2,none⟩ = some (.int .i64 0) := (blk_cell BK126.out 2).trans rfl;have hcz36_3 : w35.cell? ⟨gb126,3,none⟩ = some (.int .i64 0) := (blk_cell BK126.out 3).trans rfl;have hcz36_4 : w35.cell? ⟨gb126,4,none⟩ = some (.int .i64 0) := (blk_cell BK126.out 4).trans rfl;have hfz36_0 := blk_frozen BK126.out 0;have hfz36_1 := blk_frozen BK126.out 1;have hfz36_2 := blk_frozen BK126.out 2;have hfz36_3 := blk_frozen BK126.out 3;have hfz36_4 := blk_frozen BK126.out 4))
           (try simp only [Act.put,List.setIfInBounds_toArray,List.set_cons_zero,List.set_cons_succ])
           go_cut [63] (fun v63 wc => ∃ (kq : Nat) (x63_33 : Bool),v63 = .bool x63_33 ∧ Aside0 (demand_Check.j3 kq l0 (l0.length : Int) x38_3 x63_33 = some r) ∧ Aside0 (kq ≤ k3) ∧ Aside0 (wc.heap[gb126]? = some (.cells #[.string ((rd_T43 l0 x38_3).f0),.int .i64 ((rd_T43 l0 x38_3).f1),.int .i64 ((rd_T43 l0 x38_3).f2),.int .i64 ((rd_T43 l0 x38_3).f3),.int .i64 ((rd_T43 l0 x38_3).f4)] 43 (0,0))) ∧ Aside0 (Below w.heap.size w wc))
           case first =>
            have H := HC34.out
            clear HC34
            replace H := Option.bind_eq_some_iff.mp H
            obtain ⟨t127,A370,H⟩ := H
            replace H : (if t127 = true then ((demand_between_int64.f ((rd_T43 l0 x38_3).f2) 0 15625000000).bind fun t128 => (if t128 = true then ((demand_between_int.f ((rd_T43 l0 x38_3).f3) 0 86400).bind fun t129 => (if t129 = true then ((demand_between_int.f ((rd_T43 l0 x38_3).f4) 0 86400).bind fun t130 => (demand_Check.j3 k3 l0 (l0.length : Int) x38_3 (!t130))) else (demand_Check.j3 k3 l0 (l0.length : Int) x38_3 true))) else (demand_Check.j3 k3 l0 (l0.length : Int) x38_3 true))) else (demand_Check.j3 k3 l0 (l0.length : Int) x38_3 true)) = some r := H
            have A37 := Yd A370
            clear A370
            by_cases c38 : t127 = true
            ·subst c38
             have H1 : ((demand_between_int64.f ((rd_T43 l0 x38_3).f2) 0 15625000000).bind fun t128 => (if t128 = true then ((demand_between_int.f ((rd_T43 l0 x38_3).f3) 0 86400).bind fun t129 => (if t129 = true then ((demand_between_int.f ((rd_T43 l0 x38_3).f4) 0 86400).bind fun t130 => (demand_Check.j3 k3 l0 (l0.length : Int) x38_3 (!t130))) else (demand_Check.j3 k3 l0 (l0.length : Int) x38_3 true))) else (demand_Check.j3 k3 l0 (l0.length : Int) x38_3 true))) = some r := by rw [if_pos rfl] at H;exact H
             clear H
             have H := H1
             clear H1
             replace H := Option.bind_eq_some_iff.mp H
             obtain ⟨t128,A390,H⟩ := H
             replace H : (if t128 = true then ((demand_between_int.f ((rd_T43 l0 x38_3).f3) 0 86400).bind fun t129 => (if t129 = true then ((demand_between_int.f ((rd_T43 l0 x38_3).f4) 0 86400).bind fun t130 => (demand_Check.j3 k3 l0 (l0.length : Int) x38_3 (!t130))) else (demand_Check.j3 k3 l0 (l0.length : Int) x38_3 true))) else (demand_Check.j3 k3 l0 (l0.length : Int) x38_3 true)) = some r := H
             have A39 := Yd A390
             clear A390
             by_cases c40 : t128 = true
             ·subst c40
              have H1 : ((demand_between_int.f ((rd_T43 l0 x38_3).f3) 0 86400).bind fun t129 => (if t129 = true then ((demand_between_int.f ((rd_T43 l0 x38_3).f4) 0 86400).bind fun t130 => (demand_Check.j3 k3 l0 (l0.length : Int) x38_3 (!t130))) else (demand_Check.j3 k3 l0 (l0.length : Int) x38_3 true))) = some r := by rw [if_pos rfl] at H;exact H
              clear H
              have H := H1
              clear H1
              replace H := Option.bind_eq_some_iff.mp H
              obtain ⟨t129,A410,H⟩ := H
              replace H : (if t129 = true then ((demand_between_int.f ((rd_T43 l0 x38_3).f4) 0 86400).bind fun t130 => (demand_Check.j3 k3 l0 (l0.length : Int) x38_3 (!t130))) else (demand_Check.j3 k3 l0 (l0.length : Int) x38_3 true)) = some r := H
              have A41 := Yd A410
              clear A410
              by_cases c42 : t129 = true
              ·subst c42
               have H1 : ((demand_between_int.f ((rd_T43 l0 x38_3).f4) 0 86400).bind fun t130 => (demand_Check.j3 k3 l0 (l0.length : Int) x38_3 (!t130))) = some r := by rw [if_pos rfl] at H;exact H
               clear H
               have H := H1
               clear H1
               replace H := Option.bind_eq_some_iff.mp H
               obtain ⟨t130,A430,H⟩ := H
               replace H : (demand_Check.j3 k3 l0 (l0.length : Int) x38_3 (!t130)) = some r := H
               have A43 := Yd A430
               clear A430
               have H' := Yd H
               clear H
               have hcz44_0 : w35.cell? ⟨gb126,0,none⟩ = some (.string (⟨#[]⟩ : ByteArray)) := (blk_cell BK126.out 0).trans rfl
               have hcz44_1 : w35.cell? ⟨gb126,1,none⟩ = some (.int .i64 0) := (blk_cell BK126.out 1).trans rfl
               have hcz44_2 : w35.cell? ⟨gb126,2,none⟩ = some (.int .i64 0) := (blk_cell BK126.out 2).trans rfl
               have hcz44_3 : w35.cell? ⟨gb126,3,none⟩ = some (.int .i64 0) := (blk_cell BK126.out 3).trans rfl
               have hcz44_4 : w35.cell? ⟨gb126,4,none⟩ = some (.int .i64 0) := (blk_cell BK126.out 4).trans rfl
               have hfz44_0 := blk_frozen BK126.out 0
               have hfz44_1 := blk_frozen BK126.out 1
               have hfz44_2 := blk_frozen BK126.out 2
               have hfz44_3 := blk_frozen BK126.out 3
               have hfz44_4 := blk_frozen BK126.out 4
               go_wp2_with (first | ((with_reducible refine gate_callee (f := 34) rfl ?_);refine goesL_ (some 44) rfl rfl Try.func34 (by kernel_rfl) rfl #[.int .i64 ((rd_T43 l0 x38_3).f1),.int .i64 1,.int .i64 100] rfl Y8 ?_;(with_reducible refine (demand_between_int.calls ((rd_T43 l0 x38_3).f1) 1 100 true _ A37.out).mono ?_);rintro e w' ⟨rfl,⟨nd,rfl⟩⟩;refine ⟨_,rfl,?_⟩) | (go_at_call 35;(with_reducible refine (demand_between_int64.calls ((rd_T43 l0 x38_3).f2) 0 15625000000 true _ A39.out).mono ?_);rintro e w' ⟨rfl,⟨nd,rfl⟩⟩) | (go_at_call 34;(with_reducible refine (demand_between_int.calls ((rd_T43 l0 x38_3).f3) 0 86400 true _ A41.out).mono ?_);rintro e w' ⟨rfl,⟨nd,rfl⟩⟩) | (go_at_call 34;(with_reducible refine (demand_between_int.calls ((rd_T43 l0 x38_3).f4) 0 86400 t130 _ A43.out).mono ?_);rintro e w' ⟨rfl,⟨nd,rfl⟩⟩))
               go_meet
               case rel => exact ⟨_,(!t130),Y12,H',⟨by have := HK1.out;have := HK2.out;have := HK3.out;first | omega | exact Nat.le_refl _⟩,⟨by (with_reducible repeat (first | refine blk_drewN ?_ _ | refine blk_drew ?_ | refine blk_alloc ?_ _));refine blk_put (cs := #[.string ((rd_T43 l0 x38_3).f0),.int .i64 ((rd_T43 l0 x38_3).f1),.int .i64 ((rd_T43 l0 x38_3).f2),.int .i64 ((rd_T43 l0 x38_3).f3),.int .i64 0]) ?_ 4 _ rfl;(with_reducible repeat (first | refine blk_drewN ?_ _ | refine blk_drew ?_ | refine blk_alloc ?_ _));refine blk_put (cs := #[.string ((rd_T43 l0 x38_3).f0),.int .i64 ((rd_T43 l0 x38_3).f1),.int .i64 ((rd_T43 l0 x38_3).f2),.int .i64 0,.int .i64 0]) ?_ 3 _ rfl;(with_reducible repeat (first | refine blk_drewN ?_ _ | refine blk_drew ?_ | refine blk_alloc ?_ _));refine blk_put (cs := #[.string ((rd_T43 l0 x38_3).f0),.int .i64 ((rd_T43 l0 x38_3).f1),.int .i64 0,.int .i64 0,.int .i64 0]) ?_ 2 _ rfl;(with_reducible repeat (first | refine blk_drewN ?_ _ | refine blk_drew ?_ | refine blk_alloc ?_ _));refine blk_put (cs := #[.string ((rd_T43 l0 x38_3).f0),.int .i64 0,.int .i64 0,.int .i64 0,.int .i64 0]) ?_ 1 _ rfl;(with_reducible repeat (first | refine blk_drewN ?_ _ | refine blk_drew ?_ | refine blk_alloc ?_ _));refine blk_put (cs := #[.string (⟨#[]⟩ : ByteArray),.int .i64 0,.int .i64 0,.int .i64 0,.int .i64 0]) ?_ 0 _ rfl;(with_reducible repeat (first | refine blk_drewN ?_ _ | refine blk_drew ?_ | refine blk_alloc ?_ _));exact BK126.out⟩,⟨by repeat (first | (with_reducible first | exact HB.out | apply below_alloc | apply Y15 | apply below_drew1 | refine below_set ?_ GE126.out) | exact HB.out)⟩⟩
              ·replace c42 := Bool.eq_false_iff.mpr c42
               subst c42
               have H1 : (demand_Check.j3 k3 l0 (l0.length : Int) x38_3 true) = some r := by rw [if_neg (show ¬ (false = true) by decide)] at H;exact H
               clear H
               have H := H1
               clear H1
               have H' := Yd H
               clear H
               have hcz45_0 : w35.cell? ⟨gb126,0,none⟩ = some (.string (⟨#[]⟩ : ByteArray)) := (blk_cell BK126.out 0).trans rfl
               have hcz45_1 : w35.cell? ⟨gb126,1,none⟩ = some (.int .i64 0) := (blk_cell BK126.out 1).trans rfl
               have hcz45_2 : w35.cell? ⟨gb126,2,none⟩ = some (.int .i64 0) := (blk_cell BK126.out 2).trans rfl
               have hcz45_3 : w35.cell? ⟨gb126,3,none⟩ = some (.int .i64 0) := (blk_cell BK126.out 3).trans rfl
               have hcz45_4 : w35.cell? ⟨gb126,4,none⟩ = some (.int .i64 0) := (blk_cell BK126.out 4).trans rfl
               have hfz45_0 := blk_frozen BK126.out 0
               have hfz45_1 := blk_frozen BK126.out 1
               have hfz45_2 := blk_frozen BK126.out 2
               have hfz45_3 := blk_frozen BK126.out 3
               have hfz45_4 := blk_frozen BK126.out 4
               go_wp2_with (first | ((with_reducible refine gate_callee (f := 34) rfl ?_);refine goesL_ (some 44) rfl rfl Try.func34 (by kernel_rfl) rfl #[.int .i64 ((rd_T43 l0 x38_3).f1),.int .i64 1,.int .i64 100] rfl Y8 ?_;(with_reducible refine (demand_between_int.calls ((rd_T43 l0 x38_3).f1) 1 100 true _ A37.out).mono ?_);rintro e w' ⟨rfl,⟨nd,rfl⟩⟩;refine ⟨_,rfl,?_⟩) | (go_at_call 35;(with_reducible refine (demand_between_int64.calls ((rd_T43 l0 x38_3).f2) 0 15625000000 true _ A39.out).mono ?_);rintro e w' ⟨rfl,⟨nd,rfl⟩⟩) | (go_at_call 34;(with_reducible refine (demand_between_int.calls ((rd_T43 l0 x38_3).f3) 0 86400 false _ A41.out).mono ?_);rintro e w' ⟨rfl,⟨nd,rfl⟩⟩))
               go_meet
               case rel => exact ⟨_,(true),Y12,H',⟨by have := HK1.out;have := HK2.out;have := HK3.out;first | omega | exact Nat.le_refl _⟩,⟨by (with_reducible repeat (first | refine blk_drewN ?_ _ | refine blk_drew ?_ | refine blk_alloc ?_ _));refine blk_put (cs := #[.string ((rd_T43 l0 x38_3).f0),.int .i64 ((rd_T43 l0 x38_3).f1),.int .i64 ((rd_T43 l0 x38_3).f2),.int .i64 ((rd_T43 l0 x38_3).f3),.int .i64 0]) ?_ 4 _ rfl;(with_reducible repeat (first | refine blk_drewN ?_ _ | refine blk_drew ?_ | refine blk_alloc ?_ _));refine blk_put (cs := #[.string ((rd_T43 l0 x38_3).f0),.int .i64 ((rd_T43 l0 x38_3).f1),.int .i64 ((rd_T43 l0 x38_3).f2),.int .i64 0,.int .i64 0]) ?_ 3 _ rfl;(with_reducible repeat (first | refine blk_drewN ?_ _ | refine blk_drew ?_ | refine blk_alloc ?_ _));refine blk_put (cs := #[.string ((rd_T43 l0 x38_3).f0),.int .i64 ((rd_T43 l0 x38_3).f1),.int .i64 0,.int .i64 0,.int .i64 0]) ?_ 2 _ rfl;(with_reducible repeat (first | refine blk_drewN ?_ _ | refine blk_drew ?_ | refine blk_alloc ?_ _));refine blk_put (cs := #[.string ((rd_T43 l0 x38_3).f0),.int .i64 0,.int .i64 0,.int .i64 0,.int .i64 0]) ?_ 1 _ rfl;(with_reducible repeat (first | refine blk_drewN ?_ _ | refine blk_drew ?_ | refine blk_alloc ?_ _));refine blk_put (cs := #[.string (⟨#[]⟩ : ByteArray),.int .i64 0,.int .i64 0,.int .i64 0,.int .i64 0]) ?_ 0 _ rfl;(with_reducible repeat (first | refine blk_drewN ?_ _ | refine blk_drew ?_ | refine blk_alloc ?_ _));exact BK126.out⟩,⟨by repeat (first | (with_reducible first | exact HB.out | apply below_alloc | apply Y15 | apply below_drew1 | refine below_set ?_ GE126.out) | exact HB.out)⟩⟩
             ·replace c40 := Bool.eq_false_iff.mpr c40
              subst c40
              have H1 : (demand_Check.j3 k3 l0 (l0.length : Int) x38_3 true) = some r := by rw [if_neg (show ¬ (false = true) by decide)] at H;exact H
              clear H
              have H := H1
              clear H1
              have H' := Yd H
              clear H
              have hcz46_0 : w35.cell? ⟨gb126,0,none⟩ = some (.string (⟨#[]⟩ : ByteArray)) := (blk_cell BK126.out 0).trans rfl
              have hcz46_1 : w35.cell? ⟨gb126,1,none⟩ = some (.int .i64 0) := (blk_cell BK126.out 1).trans rfl
              have hcz46_2 : w35.cell? ⟨gb126,2,none⟩ = some (.int .i64 0) := (blk_cell BK126.out 2).trans rfl
              have hcz46_3 : w35.cell? ⟨gb126,3,none⟩ = some (.int .i64 0) := (blk_cell BK126.out 3).trans rfl
              have hcz46_4 : w35.cell? ⟨gb126,4,none⟩ = some (.int .i64 0) := (blk_cell BK126.out 4).trans rfl
              have hfz46_0 := blk_frozen BK126.out 0
              have hfz46_1 := blk_frozen BK126.out 1
              have hfz46_2 := blk_frozen BK126.out 2
              have hfz46_3 := blk_frozen BK126.out 3
              have hfz46_4 := blk_frozen BK126.out 4
              go_wp2_with (first | ((with_reducible refine gate_callee (f := 34) rfl ?_);refine goesL_ (some 44) rfl rfl Try.func34 (by kernel_rfl) rfl #[.int .i64 ((rd_T43 l0 x38_3).f1),.int .i64 1,.int .i64 100] rfl Y8 ?_;(with_reducible refine (demand_between_int.calls ((rd_T43 l0 x38_3).f1) 1 100 true _ A37.out).mono ?_);rintro e w' ⟨rfl,⟨nd,rfl⟩⟩;refine ⟨_,rfl,?_⟩) | (go_at_call 35;(with_reducible refine (demand_between_int64.calls ((rd_T43 l0 x38_3).f2) 0 15625000000 false _ A39.out).mono ?_);rintro e w' ⟨rfl,⟨nd,rfl⟩⟩))
              go_meet
              case rel => exact ⟨_,(true),Y12,H',⟨by have := HK1.out;have := HK2.out;have := HK3.out;first | omega | exact Nat.le_refl _⟩,⟨by (with_reducible repeat (first | refine blk_drewN ?_ _ | refine blk_drew ?_ | refine blk_alloc ?_ _));refine blk_put (cs := #[.string ((rd_T43 l0 x38_3).f0),.int .i64 ((rd_T43 l0 x38_3).f1),.int .i64 ((rd_T43 l0 x38_3).f2),.int .i64 ((rd_T43 l0 x38_3).f3),.int .i64 0]) ?_ 4 _ rfl;(with_reducible repeat (first | refine blk_drewN ?_ _ | refine blk_drew ?_ | refine blk_alloc ?_ _));refine blk_put (cs := #[.string ((rd_T43 l0 x38_3).f0),.int .i64 ((rd_T43 l0 x38_3).f1),.int .i64 ((rd_T43 l0 x38_3).f2),.int .i64 0,.int .i64 0]) ?_ 3 _ rfl;(with_reducible repeat (first | refine blk_drewN ?_ _ | refine blk_drew ?_ | refine blk_alloc ?_ _));refine blk_put (cs := #[.string ((rd_T43 l0 x38_3).f0),.int .i64 ((rd_T43 l0 x38_3).f1),.int .i64 0,.int .i64 0,.int .i64 0]) ?_ 2 _ rfl;(with_reducible repeat (first | refine blk_drewN ?_ _ | refine blk_drew ?_ | refine blk_alloc ?_ _));refine blk_put (cs := #[.string ((rd_T43 l0 x38_3).f0),.int .i64 0,.int .i64 0,.int .i64 0,.int .i64 0]) ?_ 1 _ rfl;(with_reducible repeat (first | refine blk_drewN ?_ _ | refine blk_drew ?_ | refine blk_alloc ?_ _));refine blk_put (cs := #[.string (⟨#[]⟩ : ByteArray),.int .i64 0,.int .i64 0,.int .i64 0,.int .i64 0]) ?_ 0 _ rfl;(with_reducible repeat (first | refine blk_drewN ?_ _ | refine blk_drew ?_ | refine blk_alloc ?_ _));exact BK126.out⟩,⟨by repeat (first | (with_reducible first | exact HB.out | apply below_alloc | apply Y15 | apply below_drew1 | refine below_set ?_ GE126.out) | exact HB.out)⟩⟩
            ·replace c38 := Bool.eq_false_iff.mpr c38
             subst c38
             have H1 : (demand_Check.j3 k3 l0 (l0.length : Int) x38_3 true) = some r := by rw [if_neg (show ¬ (false = true) by decide)] at H;exact H
             clear H
             have H := H1
             clear H1
             have H' := Yd H
             clear H
             have hcz47_0 : w35.cell? ⟨gb126,0,none⟩ = some (.string (⟨#[]⟩ : ByteArray)) := (blk_cell BK126.out 0).trans rfl
             have hcz47_1 : w35.cell? ⟨gb126,1,none⟩ = some (.int .i64 0) := (blk_cell BK126.out 1).trans rfl
             have hcz47_2 : w35.cell? ⟨gb126,2,none⟩ = some (.int .i64 0) := (blk_cell BK126.out 2).trans rfl
             have hcz47_3 : w35.cell? ⟨gb126,3,none⟩ = some (.int .i64 0) := (blk_cell BK126.out 3).trans rfl
             have hcz47_4 : w35.cell? ⟨gb126,4,none⟩ = some (.int .i64 0) := (blk_cell BK126.out 4).trans rfl
             have hfz47_0 := blk_frozen BK126.out 0
             have hfz47_1 := blk_frozen BK126.out 1
             have hfz47_2 := blk_frozen BK126.out 2
             have hfz47_3 := blk_frozen BK126.out 3
             have hfz47_4 := blk_frozen BK126.out 4
             go_wp2_with (first | ((with_reducible refine gate_callee (f := 34) rfl ?_);refine goesL_ (some 44) rfl rfl Try.func34 (by kernel_rfl) rfl #[.int .i64 ((rd_T43 l0 x38_3).f1),.int .i64 1,.int .i64 100] rfl Y8 ?_;(with_reducible refine (demand_between_int.calls ((rd_T43 l0 x38_3).f1) 1 100 false _ A37.out).mono ?_);rintro e w' ⟨rfl,⟨nd,rfl⟩⟩;refine ⟨_,rfl,?_⟩))
             go_meet
             case rel => exact ⟨_,(true),Y12,H',⟨by have := HK1.out;have := HK2.out;have := HK3.out;first | omega | exact Nat.le_refl _⟩,⟨by (with_reducible repeat (first | refine blk_drewN ?_ _ | refine blk_drew ?_ | refine blk_alloc ?_ _));refine blk_put (cs := #[.string ((rd_T43 l0 x38_3).f0),.int .i64 ((rd_T43 l0 x38_3).f1),.int .i64 ((rd_T43 l0 x38_3).f2),.int .i64 ((rd_T43 l0 x38_3).f3),.int .i64 0]) ?_ 4 _ rfl;(with_reducible repeat (first | refine blk_drewN ?_ _ | refine blk_drew ?_ | refine blk_alloc ?_ _));refine blk_put (cs := #[.string ((rd_T43 l0 x38_3).f0),.int .i64 ((rd_T43 l0 x38_3).f1),.int .i64 ((rd_T43 l0 x38_3).f2),.int .i64 0,.int .i64 0]) ?_ 3 _ rfl;(with_reducible repeat (first | refine blk_drewN ?_ _ | refine blk_drew ?_ | refine blk_alloc ?_ _));refine blk_put (cs := #[.string ((rd_T43 l0 x38_3).f0),.int .i64 ((rd_T43 l0 x38_3).f1),.int .i64 0,.int .i64 0,.int .i64 0]) ?_ 2 _ rfl;(with_reducible repeat (first | refine blk_drewN ?_ _ | refine blk_drew ?_ | refine blk_alloc ?_ _));refine blk_put (cs := #[.string ((rd_T43 l0 x38_3).f0),.int .i64 0,.int .i64 0,.int .i64 0,.int .i64 0]) ?_ 1 _ rfl;(with_reducible repeat (first | refine blk_drewN ?_ _ | refine blk_drew ?_ | refine blk_alloc ?_ _));refine blk_put (cs := #[.string (⟨#[]⟩ : ByteArray),.int .i64 0,.int .i64 0,.int .i64 0,.int .i64 0]) ?_ 0 _ rfl;(with_reducible repeat (first | refine blk_drewN ?_ _ | refine blk_drew ?_ | refine blk_alloc ?_ _));exact BK126.out⟩,⟨by repeat (first | (with_reducible first | exact HB.out | apply below_alloc | apply Y15 | apply below_drew1 | refine below_set ?_ GE126.out) | exact HB.out)⟩⟩
           case rest =>
            clear HC34
            try clear c1
            try clear p1
            try clear q1
            try clear hx1
            try clear c2
            try clear c2b0
            try clear c2b1
            try clear p2
            try clear q2
            try clear c3
            try clear c3b0
            try clear c4
            try clear c4b0
            try clear c5
            try clear c5b0
            try clear p6
            try clear c7
            try clear p11
            try clear q11
            try clear hx11
            try clear p12
            try clear q12
            try clear hx12
            try clear c14
            try clear c14b0
            try clear c15
            try clear c15b0
            try clear c16
            try clear c16b0
            try clear c17
            try clear c17b0
            try clear c18
            try clear c18b0
            try clear c18b1
            try clear c20
            try clear q24
            try clear c27
            try clear q29
            try clear c31
            try clear c31b0
            try clear c32
            try clear c32b0
            try clear c33
            try clear c33b0
            try clear c34
            try clear c38
            try clear c40
            try clear c42
            try clear c45
            try clear c46
            try clear c47
            try clear hcz12_0
            try clear hcz12_1
            try clear hcz12_2
            try clear hcz12_3
            try clear hcz12_4
            try clear hcz22_0
            try clear hcz22_1
            try clear hcz22_2
            try clear hcz22_3
            try clear hcz22_4
            try clear hcz27_0
            try clear hcz27_1
            try clear hcz27_2
            try clear hcz27_3
            try clear hcz27_4
            try clear hcz36_0
            try clear hcz36_1
            try clear hcz36_2
            try clear hcz36_3
            try clear hcz36_4
            try clear hcz44_0
            try clear hcz44_1
            try clear hcz44_2
            try clear hcz44_3
            try clear hcz44_4
            try clear hcz45_0
            try clear hcz45_1
            try clear hcz45_2
            try clear hcz45_3
            try clear hcz45_4
            try clear hcz46_0
            try clear hcz46_1
            try clear hcz46_2
            try clear hcz46_3
            try clear hcz46_4
            try clear hcz47_0
            try clear hcz47_1
            try clear hcz47_2
            try clear hcz47_3
            try clear hcz47_4
            try clear hcz9_0
            try clear hcz9_1
            try clear hcz9_2
            try clear hcz9_3
            try clear hcz9_4
            try clear hfz12_0
            try clear hfz12_1
            try clear hfz12_2
            try clear hfz12_3
            try clear hfz12_4
            try clear hfz22_0
            try clear hfz22_1
            try clear hfz22_2
            try clear hfz22_3
            try clear hfz22_4
            try clear hfz27_0
            try clear hfz27_1
            try clear hfz27_2
            try clear hfz27_3
            try clear hfz27_4
            try clear hfz36_0
            try clear hfz36_1
            try clear hfz36_2
            try clear hfz36_3
            try clear hfz36_4
            try clear hfz44_0
            try clear hfz44_1
            try clear hfz44_2
            try clear hfz44_3
            try clear hfz44_4
            try clear hfz45_0
            try clear hfz45_1
            try clear hfz45_2
            try clear hfz45_3
            try clear hfz45_4
            try clear hfz46_0
            try clear hfz46_1
            try clear hfz46_2
            try clear hfz46_3
            try clear hfz46_4
            try clear hfz47_0
            try clear hfz47_1
            try clear hfz47_2
            try clear hfz47_3
            try clear hfz47_4
            try clear hfz9_0
            try clear hfz9_1
            try clear hfz9_2
            try clear hfz9_3
            try clear hfz9_4
            try clear hx115_0
            try clear hx115_1
            try clear hx115_2
            try clear hx115_3
            try clear hx115_4
            try clear hx118_0
            try clear hx118_1
            try clear hx118_2
            try clear hx118_3
            try clear hx118_4
            try clear hx125_0
            try clear hx125_1
            try clear hx125_2
            try clear hx125_3
            try clear hx125_4
            try clear p1
            try clear p11
            try clear p115
            try clear p118
            try clear p125
            try clear p2
            try clear p6
            try clear q1
            try clear q11
            try clear q115
            try clear q118
            try clear q125
            try clear q2
            try clear q24
            try clear q29
            obtain ⟨kq,x63_33,rfl,HA,HJ33,BK126,HB⟩ := hcut
            cases kq with
            | zero => exact absurd HA.out (by simp [demand_Check.j3])
            | succ kj33 =>
             have H := HA.out
             clear HA
             simp only [demand_Check.j3] at H
             by_cases c48 : x63_33 = true
             ·subst c48
              have H1 : (some 6) = some r := by rw [if_pos rfl] at H;exact H
              clear H
              have H := H1
              clear H1
              obtain rfl := Option.some.inj H
              go_wp2
              go_ret
              exact ⟨by first | rfl | (simp [errW_none,errW_some] <;> rfl) | (simp [*,errW_none,errW_some] <;> rfl),by repeat (first | (with_reducible first | exact HB.out | apply below_alloc | apply Y15 | apply below_drew1 | refine below_set ?_ GE126.out) | exact HB.out)⟩
             ·replace c48 := Bool.eq_false_iff.mpr c48
              subst c48
              have H1 : (demand_Check.l2 kj33 l0 (l0.length : Int) (wrap64 (x38_3 + 1))) = some r := by rw [if_neg (show ¬ (false = true) by decide)] at H;exact H
              clear H
              have H := H1
              clear H1
              have H' := Yd H
              clear H
              go_wp2
              go_roundg kj33
              case measure => have := HK1.out;have := HK2.out;have := HK3.out;have := HJ33.out;omega
              case rel => exact ⟨(wrap64 (x38_3 + 1)),Y12,H',⟨by have := HK1.out;have := HK2.out;have := HK3.out;have := HJ33.out;omega⟩,⟨by repeat (first | (with_reducible first | exact HB.out | apply below_alloc | apply Y15 | apply below_drew1 | refine below_set ?_ GE126.out) | exact HB.out)⟩⟩
          ·rw [if_neg c31] at H
           have c31b0 : decide (x38_3 < (l0.length : Int)) = false := decide_eq_false c31
           clear c31
           obtain rfl := Option.some.inj H
           go_wp2
           go_ret
           exact ⟨by first | rfl | (simp [errW_none,errW_some] <;> rfl) | (simp [*,errW_none,errW_some] <;> rfl),Y3 HB.out⟩
-- NOT PRINTED: function 63 (slices_IndexFunc_int64_int64)
-- NOT PRINTED: function 51 (slices_ContainsFunc_int64_int64)
def demand_analog_1.f (a0 : Int) : Option (Bool) := (demand_between_int64.f a0 (-1000000000000) 1000000000000).bind fun t131 => (some (!t131))
set_option maxHeartbeats 100000000 in
set_option maxRecDepth 100000 in
theorem demand_analog_1.calls (a0 : Int) (r : Bool) (w : World) (h : demand_analog_1.f a0 = some r) :
  Calls Try.prog 52 #[.int .i64 a0] w fun e w' => e = .returned (.bool r) ∧ Drawn0 w w' := by
 have H : ((demand_between_int64.f a0 (-1000000000000) 1000000000000).bind fun t131 => (some (!t131))) = some r := h
 clear h
 replace H := Option.bind_eq_some_iff.mp H
 obtain ⟨t131,A20,H⟩ := H
 replace H : (some (!t131)) = some r := H
 have A2 := Yd A20
 clear A20
 obtain rfl := Option.some.inj H
 go_enter Try.func52,Try.ntmps52
 go_wp2_with (first | ((with_reducible refine gate_callee (f := 35) rfl ?_);refine goesL_ (some 4) rfl rfl Try.func35 (by kernel_rfl) rfl #[.int .i64 a0,.int .i64 (-1000000000000),.int .i64 1000000000000] rfl Y8 ?_;(with_reducible refine (demand_between_int64.calls a0 (-1000000000000) 1000000000000 t131 _ A2.out).mono ?_);rintro e w' ⟨rfl,⟨nd,rfl⟩⟩;refine ⟨_,rfl,?_⟩))
 go_ret
 exact ⟨by first | rfl | (simp;done) | (simp [*];done),by repeat (first | exact Drawn0.refl _ | apply Drawn0.step)⟩
end Go.Proofs.Ytcdjhdfjkfbgdaa.PD56
namespace Go.Proofs.Ytcdjhdfjkfbgdaa.PD56
open Go.RowKit Go.Proofs.YtcdjhdfjkfbgdaaW.PrintWords Go.Proofs.YtcdjhdfjkfbgdaaW.PrintLast Go.Proofs.YtcdjhdfjkfbgdaaW.PrintMore
attribute [local go_sem] max2_int min2_int max_two min_two max_three min_three max_four min_four   -- for this text's walks alone
def slices_IndexFunc_int64_int64__c52.l0 : Nat → List Int → Int → Int → Option (Int)
 | 0,_,_,_ => none
 | k + 1,x0,x7,x8 => if x8 < x7 then (if 0 ≤ x8 then (if x8 < (x0.length : Int) then ((demand_analog_1.f (rd x0 x8)).bind fun t133 => (if t133 = true then (some x8) else (slices_IndexFunc_int64_int64__c52.l0 k x0 x7 (wrap64 (x8 + 1))))) else (none)) else (none)) else (some (-1))
def slices_IndexFunc_int64_int64__c52.f (k : Nat) (l0 : List Int)  : Option (Int) := slices_IndexFunc_int64_int64__c52.l0 k l0 (l0.length : Int) 0
theorem slices_IndexFunc_int64_int64__c52.mono_l : ∀ k,(∀ y0 y1 y2,LeO (slices_IndexFunc_int64_int64__c52.l0 k y0 y1 y2) (slices_IndexFunc_int64_int64__c52.l0 (k + 1) y0 y1 y2))
 | 0 => fun _ _ _ r h => by simp [slices_IndexFunc_int64_int64__c52.l0] at h
 | k + 1 => by
  have ih0 := slices_IndexFunc_int64_int64__c52.mono_l k
  ·intro y0 y1 y2
   unfold slices_IndexFunc_int64_int64__c52.l0
   repeat' first
   | (with_reducible exact ih0 _ _ _)
   | (with_reducible exact LeO.refl _)
   | (with_reducible exact LeO.none _)
   | (with_reducible refine LeO.ite ?_ ?_)
   | (with_reducible refine LeO.bind ?_ (fun _ => ?_))
   | exact ih0 _ _ _
   | exact LeO.none _
   | refine LeO.ite ?_ ?_
   | refine LeO.bind ?_ (fun _ => ?_)
theorem slices_IndexFunc_int64_int64__c52.mono : ∀ a0 k,LeO (slices_IndexFunc_int64_int64__c52.f k a0) (slices_IndexFunc_int64_int64__c52.f (k + 1) a0) := by
 intro a0 k
 have ih0 := slices_IndexFunc_int64_int64__c52.mono_l k
 unfold slices_IndexFunc_int64_int64__c52.f
 repeat' first
   | (with_reducible exact ih0 _ _ _)
   | (with_reducible exact LeO.refl _)
   | (with_reducible exact LeO.none _)
   | (with_reducible refine LeO.ite ?_ ?_)
   | (with_reducible refine LeO.bind ?_ (fun _ => ?_))
   | exact ih0 _ _ _
   | exact LeO.none _
   | refine LeO.ite ?_ ?_
   | refine LeO.bind ?_ (fun _ => ?_)
set_option maxHeartbeats 100000000 in
set_option maxRecDepth 100000 in
theorem slices_IndexFunc_int64_int64__c52.calls (k : Nat) (A0 : Option Addr) (c0 : Nat) (l0 : List Int)  (r : Int) (w : World) (hr0 : Kd.C (Kd.int .i64) w A0 l0.length l0) (hc0 : l0.length ≤ c0) (h : slices_IndexFunc_int64_int64__c52.f k l0 = some r) :
  Calls Try.prog 63 #[.slice A0 l0.length c0,.func (.func 52) #[] #[]] w fun e w' => e = .returned (.int .i64 r) ∧ Below w.heap.size w w' := by
 have HR0 := Yd hr0
 have HC0 := Yd hc0
 clear hr0 hc0
 have HB := Yd (Below.refl w.heap.size w)
 have H : (slices_IndexFunc_int64_int64__c52.l0 k l0 (l0.length : Int) 0) = some r := h
 clear h
 have H' := Yd H
 clear H
 go_enter Try.func63,Try.ntmps63
 go_wp2
 go_loopg [8] k (fun kq v8 w' => ∃ (x8_1 : Int),v8 = .int .i64 x8_1 ∧ Aside0 (slices_IndexFunc_int64_int64__c52.l0 kq l0 (l0.length : Int) x8_1 = some r) ∧ Aside0 (kq ≤ k) ∧ Aside0 (Below w.heap.size w w'))
 case atStart => exact ⟨(0),Y12,H',⟨Nat.le_refl _⟩,⟨Y3 HB.out⟩⟩
 case round =>
  clear H'
  try clear p2
  obtain ⟨x8_1,rfl,HA,HK1,HB⟩ := hrel
  cases gk with
  | zero => exact absurd HA.out (by simp [slices_IndexFunc_int64_int64__c52.l0])
  | succ k1 =>
   have H := HA.out
   clear HA
   simp only [slices_IndexFunc_int64_int64__c52.l0] at H
   by_cases c3 : x8_1 < (l0.length : Int)
   ·rw [if_pos c3] at H
    have c3b0 : decide (x8_1 < (l0.length : Int)) = true := decide_eq_true c3
    clear c3
    by_cases c4 : 0 ≤ x8_1
    case neg => rw [if_neg c4] at H;exact absurd H (by simp)
    rw [if_pos c4] at H
    have c4b0 : decide (0 ≤ x8_1) = true := decide_eq_true c4
    clear c4
    by_cases c5 : x8_1 < (l0.length : Int)
    case neg => rw [if_neg c5] at H;exact absurd H (by simp)
    rw [if_pos c5] at H
    have c5b0 : decide (x8_1 < (l0.length : Int)) = true := decide_eq_true c5
    clear c5
    replace H := Option.bind_eq_some_iff.mp H
    obtain ⟨t133,A60,H⟩ := H
    replace H : (if t133 = true then (some x8_1) else (slices_IndexFunc_int64_int64__c52.l0 k1 l0 (l0.length : Int) (wrap64 (x8_1 + 1)))) = some r := H
    have A6 := Yd A60
    clear A60
    by_cases c7 : t133 = true
    ·subst c7
     have H1 : (some x8_1) = some r := by rw [if_pos rfl] at H;exact H
     clear H
     have H := H1
     clear H1
     obtain rfl := Option.some.inj H
     have p132 : 0 ≤ (x8_1 : Int) := Y9
     have q132 : x8_1 < (l0.length : Int) := Y9
     obtain ⟨ad132,e132,hx132_0⟩ := Kd.at_int HR0.out x8_1 p132 q132
     cases e132
     replace hx132_0 := Y10 HB.out hx132_0
     replace p132 := eq_true p132
     replace q132 := eq_true q132
     go_wp2_with (first | (go_at_call 52;(with_reducible refine (demand_analog_1.calls (rd l0 x8_1) true _ A6.out).mono ?_);rintro e w' ⟨rfl,⟨nd,rfl⟩⟩))
     go_ret
     exact ⟨by first | rfl | (simp [errW_none,errW_some] <;> rfl) | (simp [*,errW_none,errW_some] <;> rfl),Y3 HB.out⟩
    ·replace c7 := Bool.eq_false_iff.mpr c7
     subst c7
     have H1 : (slices_IndexFunc_int64_int64__c52.l0 k1 l0 (l0.length : Int) (wrap64 (x8_1 + 1))) = some r := by rw [if_neg (show ¬ (false = true) by decide)] at H;exact H
     clear H
     have H := H1
     clear H1
     have H' := Yd H
     clear H
     have p132 : 0 ≤ (x8_1 : Int) := Y9
     have q132 : x8_1 < (l0.length : Int) := Y9
     obtain ⟨ad132,e132,hx132_0⟩ := Kd.at_int HR0.out x8_1 p132 q132
     cases e132
     replace hx132_0 := Y10 HB.out hx132_0
     replace p132 := eq_true p132
     replace q132 := eq_true q132
     go_wp2_with (first | (go_at_call 52;(with_reducible refine (demand_analog_1.calls (rd l0 x8_1) false _ A6.out).mono ?_);rintro e w' ⟨rfl,⟨nd,rfl⟩⟩))
     go_roundg k1
     case measure => have := HK1.out;omega
     case rel => exact ⟨(wrap64 (x8_1 + 1)),Y12,H',⟨by have := HK1.out;omega⟩,⟨Y3 HB.out⟩⟩
   ·rw [if_neg c3] at H
    have c3b0 : decide (x8_1 < (l0.length : Int)) = false := decide_eq_false c3
    clear c3
    obtain rfl := Option.some.inj H
    go_wp2
    go_ret
    exact ⟨by first | rfl | (simp [errW_none,errW_some] <;> rfl) | (simp [*,errW_none,errW_some] <;> rfl),Y3 HB.out⟩
def slices_ContainsFunc_int64_int64__c52.f (k : Nat) (l0 : List Int)  : Option (Bool) := (slices_IndexFunc_int64_int64__c52.f k l0).bind fun t134 => (some (decide (t134 ≥ 0)))
theorem slices_ContainsFunc_int64_int64__c52.mono : ∀ a0 k,LeO (slices_ContainsFunc_int64_int64__c52.f k a0) (slices_ContainsFunc_int64_int64__c52.f (k + 1) a0) := by
 intro a0 k
 unfold slices_ContainsFunc_int64_int64__c52.f
 repeat' first
   | (with_reducible exact slices_IndexFunc_int64_int64__c52.mono _ _)
   | (with_reducible exact LeO.refl _)
   | (with_reducible exact LeO.none _)
   | (with_reducible refine LeO.ite ?_ ?_)
   | (with_reducible refine LeO.bind ?_ (fun _ => ?_))
   | exact slices_IndexFunc_int64_int64__c52.mono _ _
   | exact LeO.none _
   | refine LeO.ite ?_ ?_
   | refine LeO.bind ?_ (fun _ => ?_)
set_option maxHeartbeats 100000000 in
set_option maxRecDepth 100000 in
theorem slices_ContainsFunc_int64_int64__c52.calls (k : Nat) (A0 : Option Addr) (c0 : Nat) (l0 : List Int)  (r : Bool) (w : World) (hr0 : Kd.C (Kd.int .i64) w A0 l0.length l0) (hc0 : l0.length ≤ c0) (h : slices_ContainsFunc_int64_int64__c52.f k l0 = some r) :
  Calls Try.prog 51 #[.slice A0 l0.length c0,.func (.func 52) #[] #[]] w fun e w' => e = .returned (.bool r) ∧ Below w.heap.size w w' := by
 have HR0 := Yd hr0
 have HC0 := Yd hc0
 clear hr0 hc0
 have HB := Yd (Below.refl w.heap.size w)
 have H : ((slices_IndexFunc_int64_int64__c52.f k l0).bind fun t134 => (some (decide (t134 ≥ 0)))) = some r := h
 clear h
 replace H := Option.bind_eq_some_iff.mp H
 obtain ⟨t134,A30,H⟩ := H
 replace H : (some (decide (t134 ≥ 0))) = some r := H
 have A3 := Yd A30
 clear A30
 obtain rfl := Option.some.inj H
 go_enter Try.func51,Try.ntmps51
 go_wp2_with (first | ((with_reducible refine gate_callee (f := 63) rfl ?_);refine goesL_ (some 7) rfl rfl Try.func63 (by kernel_rfl) rfl #[.slice A0 l0.length c0,.func (.func 52) #[] #[]] rfl Y8 ?_;(with_reducible refine (slices_IndexFunc_int64_int64__c52.calls k _ _ l0  t134 _ ?side1 ?side2 A3.out).mono ?_);(case side1 => repeat (first | exact HR0.out | (with_reducible refine Kd.C_alloc ?_ _) | (with_reducible refine Kd.C_drewN ?_ _) | (with_reducible refine Kd.C_drew ?_)));(case side2 => exact HC0.out);rintro e w4 ⟨rfl,hb⟩;refine ⟨_,rfl,?_⟩;have n0_ := Yd (below_step (Y3 HB.out) hb);clear HB;have HB := n0_;clear n0_;(try clear hb);(try clear hb2);(try clear hk);(try clear hi)))
 go_ret
 exact ⟨by first | rfl | (simp [errW_none,errW_some] <;> rfl) | (simp [*,errW_none,errW_some] <;> rfl),Y3 HB.out⟩
def demand_analog.f (k : Nat) (l0 : List Int) : Option (Bool) := (slices_ContainsFunc_int64_int64__c52.f k l0).bind fun t135 => (some (!t135))
theorem demand_analog.mono : ∀ a0 k,LeO (demand_analog.f k a0) (demand_analog.f (k + 1) a0) := by
 intro a0 k
 unfold demand_analog.f
 repeat' first
   | (with_reducible exact slices_ContainsFunc_int64_int64__c52.mono _ _)
   | (with_reducible exact LeO.refl _)
   | (with_reducible exact LeO.none _)
   | (with_reducible refine LeO.ite ?_ ?_)
   | (with_reducible refine LeO.bind ?_ (fun _ => ?_))
   | exact slices_ContainsFunc_int64_int64__c52.mono _ _
   | exact LeO.none _
   | refine LeO.ite ?_ ?_
   | refine LeO.bind ?_ (fun _ => ?_)
set_option maxHeartbeats 100000000 in
set_option maxRecDepth 100000 in
theorem demand_analog.calls (k : Nat) (A0 : Option Addr) (c0 : Nat) (l0 : List Int) (r : Bool) (w : World) (hr0 : Kd.C (Kd.int .i64) w A0 l0.length l0) (hc0 : l0.length ≤ c0) (h : demand_analog.f k l0 = some r) :
  Calls Try.prog 32 #[.slice A0 l0.length c0] w fun e w' => e = .returned (.bool r) ∧ Below w.heap.size w w' := by
 have HR0 := Yd hr0
 have HC0 := Yd hc0
 clear hr0 hc0
 have HB := Yd (Below.refl w.heap.size w)
 have H : ((slices_ContainsFunc_int64_int64__c52.f k l0).bind fun t135 => (some (!t135))) = some r := h
 clear h
 replace H := Option.bind_eq_some_iff.mp H
 obtain ⟨t135,A20,H⟩ := H
 replace H : (some (!t135)) = some r := H
 have A2 := Yd A20
 clear A20
 obtain rfl := Option.some.inj H
 go_enter Try.func32,Try.ntmps32
 go_wp2_with (first | ((with_reducible refine gate_callee (f := 51) rfl ?_);refine goesL_ (some 4) rfl rfl Try.func51 (by kernel_rfl) rfl #[.slice A0 l0.length c0,.func (.func 52) #[] #[]] rfl Y8 ?_;(with_reducible refine (slices_ContainsFunc_int64_int64__c52.calls k _ _ l0  t135 _ ?side1 ?side2 A2.out).mono ?_);(case side1 => repeat (first | exact HR0.out | (with_reducible refine Kd.C_alloc ?_ _) | (with_reducible refine Kd.C_drewN ?_ _) | (with_reducible refine Kd.C_drew ?_)));(case side2 => exact HC0.out);rintro e w3 ⟨rfl,hb⟩;refine ⟨_,rfl,?_⟩;have n0_ := Yd (below_step (Y3 HB.out) hb);clear HB;have HB := n0_;clear n0_;(try clear hb);(try clear hb2);(try clear hk);(try clear hi)))
 go_ret
 exact ⟨by first | rfl | (simp [errW_none,errW_some] <;> rfl) | (simp [*,errW_none,errW_some] <;> rfl),Y3 HB.out⟩
-- NOT PRINTED: function 53 (demand_State_53)
-- NOT PRINTED: function 36 (demand_State_36)
def demand_check_1.f (a0_0 : Bool) (a0_1 : Int) : Option (Bool) := (demand_between_int.f a0_1 0 6311433599).bind fun t137 => (some (!t137))
set_option maxHeartbeats 100000000 in
set_option maxRecDepth 100000 in
theorem demand_check_1.calls (a0_0 : Bool) (a0_1 : Int) (r : Bool) (w : World) (h : demand_check_1.f a0_0 a0_1 = some r) :
  Calls Try.prog 37 #[.agg #[.bool a0_0,.int .i64 a0_1]] w fun e w' => e = .returned (.bool r) ∧ Below w.heap.size w w' := by
 have hu51 := Try.underlying51
 have HB := Yd (Below.refl w.heap.size w)
 have H : ((demand_between_int.f a0_1 0 6311433599).bind fun t137 => (some (!t137))) = some r := h
 clear h
 replace H := Option.bind_eq_some_iff.mp H
 obtain ⟨t137,A20,H⟩ := H
 replace H : (some (!t137)) = some r := H
 have A2 := Yd A20
 clear A20
 obtain rfl := Option.some.inj H
 go_enter Try.func37,Try.ntmps37
 go_wp2_with (first | ((with_reducible refine gate_dst (N := 1) rfl ?_);refine box_event ?hg (N := 1) ?hd (cs := #[.bool a0_0,.int .i64 a0_1]) (t := 51) ?hr ?_;(case hd => rfl);(case hg => rfl);(case hr => first | (go_simp;done) | (go_simp;rfl));intro gb136 hg w3 hbox hb;have n0_ := Yd (below_step (Y3 HB.out) hb);have n1_ := Yd (hbox);have n2_ := Yd ((by rw [hg];exact (below_size (Y3 HB.out)) : w.heap.size ≤ gb136));have n3_ := Yd ((by rw [hg];exact (below_size (Y3 HB.out)) : w.heap.size ≤ gb136));clear HB;have HB := n0_;have BK136 := n1_;have GW136 := n2_;have GE136 := n3_;clear n0_ n1_ n2_ n3_;clear hb hbox hg;have hcz4_0 : w3.cell? ⟨gb136,0,none⟩ = some (.bool a0_0) := (blk_cell BK136.out 0).trans rfl;have hcz4_1 : w3.cell? ⟨gb136,1,none⟩ = some (.int .i64 a0_1) := (blk_cell BK136.out 1).trans rfl;have hfz4_0 := blk_frozen BK136.out 0;have hfz4_1 := blk_frozen BK136.out 1) | ((with_reducible refine gate_callee (f := 34) rfl ?_);refine goesL_ (some 5) rfl rfl Try.func34 (by kernel_rfl) rfl #[.int .i64 a0_1,.int .i64 0,.int .i64 6311433599] rfl Y8 ?_;(with_reducible refine (demand_between_int.calls a0_1 0 6311433599 t137 _ A2.out).mono ?_);rintro e w' ⟨rfl,⟨nd,rfl⟩⟩;refine ⟨_,rfl,?_⟩))
 go_ret
 exact ⟨by first | rfl | (simp [errW_none,errW_some] <;> rfl) | (simp [*,errW_none,errW_some] <;> rfl),by repeat (first | (with_reducible first | exact HB.out | apply below_alloc | apply Y15 | apply below_drew1 | refine below_set ?_ GE136.out) | exact HB.out)⟩
def demand_State__c37_.l0 : Nat → List (S51) → Int → Int → Option (Int)
 | 0,_,_,_ => none
 | k + 1,x0,x7,x8 => if x8 < x7 then (if 0 ≤ x8 then (if x8 < (x0.length : Int) then ((demand_check_1.f ((rd_T51 x0 x8).f0) ((rd_T51 x0 x8).f1)).bind fun t139 => (if t139 = true then (some x8) else (demand_State__c37_.l0 k x0 x7 (wrap64 (x8 + 1))))) else (none)) else (none)) else (some (-1))
def demand_State__c37_.f (k : Nat) (l0 : List (S51))  : Option (Int) := demand_State__c37_.l0 k l0 (l0.length : Int) 0
theorem demand_State__c37_.mono_l : ∀ k,(∀ y0 y1 y2,LeO (demand_State__c37_.l0 k y0 y1 y2) (demand_State__c37_.l0 (k + 1) y0 y1 y2))
 | 0 => fun _ _ _ r h => by simp [demand_State__c37_.l0] at h
 | k + 1 => by
  have ih0 := demand_State__c37_.mono_l k
  ·intro y0 y1 y2
   unfold demand_State__c37_.l0
   repeat' first
   | (with_reducible exact ih0 _ _ _)
   | (with_reducible exact LeO.refl _)
   | (with_reducible exact LeO.none _)
   | (with_reducible refine LeO.ite ?_ ?_)
   | (with_reducible refine LeO.bind ?_ (fun _ => ?_))
   | exact ih0 _ _ _
   | exact LeO.none _
   | refine LeO.ite ?_ ?_
   | refine LeO.bind ?_ (fun _ => ?_)
theorem demand_State__c37_.mono : ∀ a0 k,LeO (demand_State__c37_.f k a0) (demand_State__c37_.f (k + 1) a0) := by
 intro a0 k
 have ih0 := demand_State__c37_.mono_l k
 unfold demand_State__c37_.f
 repeat' first
   | (with_reducible exact ih0 _ _ _)
   | (with_reducible exact LeO.refl _)
   | (with_reducible exact LeO.none _)
   | (with_reducible refine LeO.ite ?_ ?_)
   | (with_reducible refine LeO.bind ?_ (fun _ => ?_))
   | exact ih0 _ _ _
   | exact LeO.none _
   | refine LeO.ite ?_ ?_
   | refine LeO.bind ?_ (fun _ => ?_)
set_option maxHeartbeats 100000000 in
set_option maxRecDepth 100000 in
theorem demand_State__c37_.calls (k : Nat) (A0 : Option Addr) (c0 : Nat) (l0 : List (S51))  (r : Int) (w : World) (hr0 : Kd.C k51 w A0 l0.length l0) (hc0 : l0.length ≤ c0) (h : demand_State__c37_.f k l0 = some r) :
  Calls Try.prog 53 #[.slice A0 l0.length c0,.func (.func 37) #[] #[]] w fun e w' => e = .returned (.int .i64 r) ∧ Below w.heap.size w w' := by
 have hu51 := Try.underlying51
 have HR0 := Yd hr0
 have HC0 := Yd hc0
 clear hr0 hc0
 have HB := Yd (Below.refl w.heap.size w)
 have H : (demand_State__c37_.l0 k l0 (l0.length : Int) 0) = some r := h
 clear h
 have H' := Yd H
 clear H
 go_enter Try.func53,Try.ntmps53
 go_wp2
 go_loopg [8] k (fun kq v8 w' => ∃ (x8_1 : Int),v8 = .int .i64 x8_1 ∧ Aside0 (demand_State__c37_.l0 kq l0 (l0.length : Int) x8_1 = some r) ∧ Aside0 (kq ≤ k) ∧ Aside0 (Below w.heap.size w w'))
 case atStart => exact ⟨(0),Y12,H',⟨Nat.le_refl _⟩,⟨Y3 HB.out⟩⟩
 case round =>
  clear H'
  try clear p2
  obtain ⟨x8_1,rfl,HA,HK1,HB⟩ := hrel
  cases gk with
  | zero => exact absurd HA.out (by simp [demand_State__c37_.l0])
  | succ k1 =>
   have H := HA.out
   clear HA
   simp only [demand_State__c37_.l0] at H
   by_cases c3 : x8_1 < (l0.length : Int)
   ·rw [if_pos c3] at H
    have c3b0 : decide (x8_1 < (l0.length : Int)) = true := decide_eq_true c3
    clear c3
    by_cases c4 : 0 ≤ x8_1
    case neg => rw [if_neg c4] at H;exact absurd H (by simp)
    rw [if_pos c4] at H
    have c4b0 : decide (0 ≤ x8_1) = true := decide_eq_true c4
    clear c4
    by_cases c5 : x8_1 < (l0.length : Int)
    case neg => rw [if_neg c5] at H;exact absurd H (by simp)
    rw [if_pos c5] at H
    have c5b0 : decide (x8_1 < (l0.length : Int)) = true := decide_eq_true c5
    clear c5
    replace H := Option.bind_eq_some_iff.mp H
    obtain ⟨t139,A60,H⟩ := H
    replace H : (if t139 = true then (some x8_1) else (demand_State__c37_.l0 k1 l0 (l0.length : Int) (wrap64 (x8_1 + 1)))) = some r := H
    have A6 := Yd A60
    clear A60
    by_cases c7 : t139 = true
    ·subst c7
     have H1 : (some x8_1) = some r := by rw [if_pos rfl] at H;exact H
     clear H
     have H := H1
     clear H1
     obtain rfl := Option.some.inj H
     have p138 : 0 ≤ (x8_1 : Int) := Y9
     have q138 : x8_1 < (l0.length : Int) := Y9
     obtain ⟨ad138,e138,hx138_0,hx138_1⟩ := at_T51 HR0.out x8_1 p138 q138
     cases e138
     replace hx138_0 := Y10 HB.out hx138_0
     replace hx138_1 := Y10 HB.out hx138_1
     replace p138 := eq_true p138
     replace q138 := eq_true q138
     go_wp2_with (first | (go_at_call 37;(with_reducible refine (demand_check_1.calls ((rd_T51 l0 x8_1).f0) ((rd_T51 l0 x8_1).f1) true _ A6.out).mono ?_);rintro e w8 ⟨rfl,hb⟩;have n0_ := Yd (below_step (Y3 HB.out) hb);clear HB;have HB := n0_;clear n0_;(try clear hb);(try clear hb2);(try clear hk);(try clear hi)))
     go_ret
     exact ⟨by first | rfl | (simp [errW_none,errW_some] <;> rfl) | (simp [*,errW_none,errW_some] <;> rfl),Y3 HB.out⟩
    ·replace c7 := Bool.eq_false_iff.mpr c7
     subst c7
     have H1 : (demand_State__c37_.l0 k1 l0 (l0.length : Int) (wrap64 (x8_1 + 1))) = some r := by rw [if_neg (show ¬ (false = true) by decide)] at H;exact H
     clear H
     have H := H1
     clear H1
     have H' := Yd H
     clear H
     have p138 : 0 ≤ (x8_1 : Int) := Y9
     have q138 : x8_1 < (l0.length : Int) := Y9
     obtain ⟨ad138,e138,hx138_0,hx138_1⟩ := at_T51 HR0.out x8_1 p138 q138
     cases e138
     replace hx138_0 := Y10 HB.out hx138_0
     replace hx138_1 := Y10 HB.out hx138_1
     replace p138 := eq_true p138
     replace q138 := eq_true q138
     go_wp2_with (first | (go_at_call 37;(with_reducible refine (demand_check_1.calls ((rd_T51 l0 x8_1).f0) ((rd_T51 l0 x8_1).f1) false _ A6.out).mono ?_);rintro e w9 ⟨rfl,hb⟩;have n0_ := Yd (below_step (Y3 HB.out) hb);clear HB;have HB := n0_;clear n0_;(try clear hb);(try clear hb2);(try clear hk);(try clear hi)))
     go_roundg k1
     case measure => have := HK1.out;omega
     case rel => exact ⟨(wrap64 (x8_1 + 1)),Y12,H',⟨by have := HK1.out;omega⟩,⟨Y3 HB.out⟩⟩
   ·rw [if_neg c3] at H
    have c3b0 : decide (x8_1 < (l0.length : Int)) = false := decide_eq_false c3
    clear c3
    obtain rfl := Option.some.inj H
    go_wp2
    go_ret
    exact ⟨by first | rfl | (simp [errW_none,errW_some] <;> rfl) | (simp [*,errW_none,errW_some] <;> rfl),Y3 HB.out⟩
def demand_State__c37.f (k : Nat) (l0 : List (S51))  : Option (Bool) := (demand_State__c37_.f k l0).bind fun t140 => (some (decide (t140 ≥ 0)))
theorem demand_State__c37.mono : ∀ a0 k,LeO (demand_State__c37.f k a0) (demand_State__c37.f (k + 1) a0) := by
 intro a0 k
 unfold demand_State__c37.f
 repeat' first
   | (with_reducible exact demand_State__c37_.mono _ _)
   | (with_reducible exact LeO.refl _)
   | (with_reducible exact LeO.none _)
   | (with_reducible refine LeO.ite ?_ ?_)
   | (with_reducible refine LeO.bind ?_ (fun _ => ?_))
   | exact demand_State__c37_.mono _ _
   | exact LeO.none _
   | refine LeO.ite ?_ ?_
   | refine LeO.bind ?_ (fun _ => ?_)
set_option maxHeartbeats 100000000 in
set_option maxRecDepth 100000 in
theorem demand_State__c37.calls (k : Nat) (A0 : Option Addr) (c0 : Nat) (l0 : List (S51))  (r : Bool) (w : World) (hr0 : Kd.C k51 w A0 l0.length l0) (hc0 : l0.length ≤ c0) (h : demand_State__c37.f k l0 = some r) :
  Calls Try.prog 36 #[.slice A0 l0.length c0,.func (.func 37) #[] #[]] w fun e w' => e = .returned (.bool r) ∧ Below w.heap.size w w' := by
 have HR0 := Yd hr0
 have HC0 := Yd hc0
 clear hr0 hc0
 have HB := Yd (Below.refl w.heap.size w)
 have H : ((demand_State__c37_.f k l0).bind fun t140 => (some (decide (t140 ≥ 0)))) = some r := h
 clear h
 replace H := Option.bind_eq_some_iff.mp H
 obtain ⟨t140,A30,H⟩ := H
 replace H : (some (decide (t140 ≥ 0))) = some r := H
 have A3 := Yd A30
 clear A30
 obtain rfl := Option.some.inj H
 go_enter Try.func36,Try.ntmps36
 go_wp2_with (first | ((with_reducible refine gate_callee (f := 53) rfl ?_);refine goesL_ (some 7) rfl rfl Try.func53 (by kernel_rfl) rfl #[.slice A0 l0.length c0,.func (.func 37) #[] #[]] rfl Y8 ?_;(with_reducible refine (demand_State__c37_.calls k _ _ l0  t140 _ ?side1 ?side2 A3.out).mono ?_);(case side1 => repeat (first | exact HR0.out | (with_reducible refine Kd.C_alloc ?_ _) | (with_reducible refine Kd.C_drewN ?_ _) | (with_reducible refine Kd.C_drew ?_)));(case side2 => exact HC0.out);rintro e w4 ⟨rfl,hb⟩;refine ⟨_,rfl,?_⟩;have n0_ := Yd (below_step (Y3 HB.out) hb);clear HB;have HB := n0_;clear n0_;(try clear hb);(try clear hb2);(try clear hk);(try clear hi)))
 go_ret
 exact ⟨by first | rfl | (simp [errW_none,errW_some] <;> rfl) | (simp [*,errW_none,errW_some] <;> rfl),Y3 HB.out⟩
def demand_check_2_.f (a0_0 : Bool) (a0_1 : Int) (a1_0 : Int) : Option (Bool) := some (decide (a0_1 > a1_0))
set_option maxHeartbeats 100000000 in
set_option maxRecDepth 100000 in
theorem demand_check_2_.calls (a0_0 : Bool) (a0_1 : Int) (B1_0_ : Nat) (a1_0 : Int) (r : Bool) (w : World) (hx1_0_ : w.heap[B1_0_]? = some (.cells #[.int .i64 a1_0] 3 (0,0))) (h : demand_check_2_.f a0_0 a0_1 a1_0 = some r) :
  Calls Try.prog 38 #[.agg #[.bool a0_0,.int .i64 a0_1],.pointer (some ⟨B1_0_,0,none⟩)] w fun e w' => e = .returned (.bool r) ∧ Below w.heap.size w w' := by
 have hu51 := Try.underlying51
 have BK141 := Yd hx1_0_
 clear hx1_0_
 have HB := Yd (Below.refl w.heap.size w)
 have H : (some (decide (a0_1 > a1_0))) = some r := h
 clear h
 obtain rfl := Option.some.inj H
 go_enter Try.func38,Try.ntmps38
 go_wp2_with (first | ((with_reducible refine gate_dst (N := 2) rfl ?_);refine box_event ?hg (N := 2) ?hd (cs := #[.bool a0_0,.int .i64 a0_1]) (t := 51) ?hr ?_;(case hd => rfl);(case hg => rfl);(case hr => first | (go_simp;done) | (go_simp;rfl));intro gb142 hg w3 hbox hb;have n0_ := Yd (blk_below (g := B1_0_) (o := .cells #[.int .i64 a1_0] 3 (0,0)) (Y6 BK141.out) hb);have n1_ := Yd (below_step (by first | exact Y4 HB.out GE141.out | exact Y3 HB.out) hb);have n2_ := Yd (hbox);have n3_ := Yd ((by rw [hg];exact (below_size (by first | exact Y4 HB.out GE141.out | exact Y3 HB.out)) : w.heap.size ≤ gb142));have n4_ := Yd ((by rw [hg];exact (below_size (by first | exact Y4 HB.out GE141.out | exact Y3 HB.out)) : w.heap.size ≤ gb142));have n5_ := Yd ((by rw [hg];exact Nat.ne_of_lt (blk_lt (g := B1_0_) (o := .cells #[.int .i64 a1_0] 3 (0,0)) (Y6 BK141.out)) : B1_0_ ≠ gb142));have n6_ := Yd ((by rw [hg];exact Nat.ne_of_gt (blk_lt (g := B1_0_) (o := .cells #[.int .i64 a1_0] 3 (0,0)) (Y6 BK141.out)) : gb142 ≠ B1_0_));clear BK141;clear HB;have BK141 := n0_;have HB := n1_;have BK142 := n2_;have GW142 := n3_;have GE142 := n4_;have NB141_142 := n5_;have NB142_141 := n6_;clear n0_ n1_ n2_ n3_ n4_ n5_ n6_;clear hb hbox hg;have hnb4 := NB142_141.out;have hnc4 := NB141_142.out;have hcz5_0 : w3.cell? ⟨gb142,0,none⟩ = some (.bool a0_0) := (blk_cell BK142.out 0).trans rfl;have hcz5_1 : w3.cell? ⟨gb142,1,none⟩ = some (.int .i64 a0_1) := (blk_cell BK142.out 1).trans rfl;have hfz5_0 := blk_frozen BK142.out 0;have hfz5_1 := blk_frozen BK142.out 1;have hcz6_0 : w3.cell? ⟨B1_0_,0,none⟩ = some (.int .i64 a1_0) := (blk_cell BK141.out 0).trans rfl;have hfz6_0 := blk_frozen BK141.out 0))
 go_ret
 exact ⟨by first | rfl | (simp [errW_none,errW_some] <;> rfl) | (simp [*,errW_none,errW_some] <;> rfl),by repeat (first | (with_reducible first | exact HB.out | apply below_alloc | apply Y15 | apply below_drew1 | refine below_set ?_ GE141.out | refine below_set ?_ GE142.out) | exact HB.out)⟩
def demand_State__c38_.l0 : Nat → List (S51) → Int → Int → Int → Option (Int)
 | 0,_,_,_,_ => none
 | k + 1,x0,x7,x8,x144000 => if x8 < x7 then (if 0 ≤ x8 then (if x8 < (x0.length : Int) then ((demand_check_2_.f ((rd_T51 x0 x8).f0) ((rd_T51 x0 x8).f1) x144000).bind fun t145 => (if t145 = true then (some x8) else (demand_State__c38_.l0 k x0 x7 (wrap64 (x8 + 1)) x144000))) else (none)) else (none)) else (some (-1))
def demand_State__c38_.f (k : Nat) (l0 : List (S51)) (a1_0 : Int) : Option (Int) := demand_State__c38_.l0 k l0 (l0.length : Int) 0 a1_0
theorem demand_State__c38_.mono_l : ∀ k,(∀ y0 y1 y2 y3,LeO (demand_State__c38_.l0 k y0 y1 y2 y3) (demand_State__c38_.l0 (k + 1) y0 y1 y2 y3))
 | 0 => fun _ _ _ _ r h => by simp [demand_State__c38_.l0] at h
 | k + 1 => by
  have ih0 := demand_State__c38_.mono_l k
  ·intro y0 y1 y2 y3
   unfold demand_State__c38_.l0
   repeat' first
   | (with_reducible exact ih0 _ _ _ _)
   | (with_reducible exact LeO.refl _)
   | (with_reducible exact LeO.none _)
   | (with_reducible refine LeO.ite ?_ ?_)
   | (with_reducible refine LeO.bind ?_ (fun _ => ?_))
   | exact ih0 _ _ _ _
   | exact LeO.none _
   | refine LeO.ite ?_ ?_
   | refine LeO.bind ?_ (fun _ => ?_)
theorem demand_State__c38_.mono : ∀ a0 a1 k,LeO (demand_State__c38_.f k a0 a1) (demand_State__c38_.f (k + 1) a0 a1) := by
 intro a0 a1 k
 have ih0 := demand_State__c38_.mono_l k
 unfold demand_State__c38_.f
 repeat' first
   | (with_reducible exact ih0 _ _ _ _)
   | (with_reducible exact LeO.refl _)
   | (with_reducible exact LeO.none _)
   | (with_reducible refine LeO.ite ?_ ?_)
   | (with_reducible refine LeO.bind ?_ (fun _ => ?_))
   | exact ih0 _ _ _ _
   | exact LeO.none _
   | refine LeO.ite ?_ ?_
   | refine LeO.bind ?_ (fun _ => ?_)
set_option maxHeartbeats 100000000 in
set_option maxRecDepth 100000 in
theorem demand_State__c38_.calls (k : Nat) (A0 : Option Addr) (c0 : Nat) (l0 : List (S51)) (B1_0_ : Nat) (a1_0 : Int) (r : Int) (w : World) (hr0 : Kd.C k51 w A0 l0.length l0) (hc0 : l0.length ≤ c0) (hx1_0_ : w.heap[B1_0_]? = some (.cells #[.int .i64 a1_0] 3 (0,0))) (h : demand_State__c38_.f k l0 a1_0 = some r) :
  Calls Try.prog 53 #[.slice A0 l0.length c0,.func (.func 38) #[] #[.pointer (some ⟨B1_0_,0,none⟩)]] w fun e w' => e = .returned (.int .i64 r) ∧ Below w.heap.size w w' := by
 have hu51 := Try.underlying51
 have HR0 := Yd hr0
 have HC0 := Yd hc0
 clear hr0 hc0
 have BK143 := Yd hx1_0_
 clear hx1_0_
 have HB := Yd (Below.refl w.heap.size w)
 have H : (demand_State__c38_.l0 k l0 (l0.length : Int) 0 a1_0) = some r := h
 clear h
 have H' := Yd H
 clear H
 go_enter Try.func53,Try.ntmps53
 go_wp2
 go_loopg [8] k (fun kq v8 w' => ∃ (x8_1 : Int),v8 = .int .i64 x8_1 ∧ Aside0 (demand_State__c38_.l0 kq l0 (l0.length : Int) x8_1 a1_0 = some r) ∧ Aside0 (kq ≤ k) ∧ Aside0 (w'.heap[B1_0_]? = some (.cells #[.int .i64 a1_0] 3 (0,0))) ∧ Aside0 (Below w.heap.size w w'))
 case atStart => exact ⟨(0),Y12,H',⟨Nat.le_refl _⟩,⟨Y6 BK143.out⟩,⟨by repeat (first | (with_reducible first | exact HB.out | apply below_alloc | apply Y15 | apply below_drew1 | refine below_set ?_ GE143.out) | exact HB.out)⟩⟩
 case round =>
  clear H'
  try clear hx1
  try clear p2
  obtain ⟨x8_1,rfl,HA,HK1,BK143,HB⟩ := hrel
  cases gk with
  | zero => exact absurd HA.out (by simp [demand_State__c38_.l0])
  | succ k1 =>
   have H := HA.out
   clear HA
   simp only [demand_State__c38_.l0] at H
   by_cases c3 : x8_1 < (l0.length : Int)
   ·rw [if_pos c3] at H
    have c3b0 : decide (x8_1 < (l0.length : Int)) = true := decide_eq_true c3
    clear c3
    by_cases c4 : 0 ≤ x8_1
    case neg => rw [if_neg c4] at H;exact absurd H (by simp)
    rw [if_pos c4] at H
    have c4b0 : decide (0 ≤ x8_1) = true := decide_eq_true c4
    clear c4
    by_cases c5 : x8_1 < (l0.length : Int)
    case neg => rw [if_neg c5] at H;exact absurd H (by simp)
    rw [if_pos c5] at H
    have c5b0 : decide (x8_1 < (l0.length : Int)) = true := decide_eq_true c5
    clear c5
    replace H := Option.bind_eq_some_iff.mp H
    obtain ⟨t145,A60,H⟩ := H
    replace H : (if t145 = true then (some x8_1) else (demand_State__c38_.l0 k1 l0 (l0.length : Int) (wrap64 (x8_1 + 1)) a1_0)) = some r := H
    have A6 := Yd A60
    clear A60
    by_cases c7 : t145 = true
    ·subst c7
     have H1 : (some x8_1) = some r := by rw [if_pos rfl] at H;exact H
     clear H
     have H := H1
     clear H1
     obtain rfl := Option.some.inj H
     have p144 : 0 ≤ (x8_1 : Int) := Y9
     have q144 : x8_1 < (l0.length : Int) := Y9
     obtain ⟨ad144,e144,hx144_0,hx144_1⟩ := at_T51 HR0.out x8_1 p144 q144
     cases e144
     replace hx144_0 := Y10 HB.out hx144_0
     replace hx144_1 := Y10 HB.out hx144_1
     replace p144 := eq_true p144
     replace q144 := eq_true q144
     go_wp2_with (first | (go_at_call 38;(with_reducible refine (demand_check_2_.calls ((rd_T51 l0 x8_1).f0) ((rd_T51 l0 x8_1).f1) B1_0_ a1_0 true _ ?side1 A6.out).mono ?_);(case side1 => exact (Y6 BK143.out));rintro e w8 ⟨rfl,hb⟩;have n0_ := Yd (blk_below (g := B1_0_) (o := .cells #[.int .i64 a1_0] 3 (0,0)) (Y6 BK143.out) hb);have n1_ := Yd (below_step (by first | exact Y4 HB.out GE143.out | exact Y3 HB.out) hb);clear BK143;clear HB;have BK143 := n0_;have HB := n1_;clear n0_ n1_;(try clear hb);(try clear hb2);(try clear hk);(try clear hi)))
     go_ret
     exact ⟨by first | rfl | (simp [errW_none,errW_some] <;> rfl) | (simp [*,errW_none,errW_some] <;> rfl),by repeat (first | (with_reducible first | exact HB.out | apply below_alloc | apply Y15 | apply below_drew1 | refine below_set ?_ GE143.out) | exact HB.out)⟩
    ·replace c7 := Bool.eq_false_iff.mpr c7
     subst c7
     have H1 : (demand_State__c38_.l0 k1 l0 (l0.length : Int) (wrap64 (x8_1 + 1)) a1_0) = some r := by rw [if_neg (show ¬ (false = true) by decide)] at H;exact H
     clear H
     have H := H1
     clear H1
     have H' := Yd H
     clear H
     have p144 : 0 ≤ (x8_1 : Int) := Y9
     have q144 : x8_1 < (l0.length : Int) := Y9
     obtain ⟨ad144,e144,hx144_0,hx144_1⟩ := at_T51 HR0.out x8_1 p144 q144
     cases e144
     replace hx144_0 := Y10 HB.out hx144_0
     replace hx144_1 := Y10 HB.out hx144_1
     replace p144 := eq_true p144
     replace q144 := eq_true q144
     go_wp2_with (first | (go_at_call 38;(with_reducible refine (demand_check_2_.calls ((rd_T51 l0 x8_1).f0) ((rd_T51 l0 x8_1).f1) B1_0_ a1_0 false _ ?side1 A6.out).mono ?_);(case side1 => exact (Y6 BK143.out));rintro e w9 ⟨rfl,hb⟩;have n0_ := Yd (blk_below (g := B1_0_) (o := .cells #[.int .i64 a1_0] 3 (0,0)) (Y6 BK143.out) hb);have n1_ := Yd (below_step (by first | exact Y4 HB.out GE143.out | exact Y3 HB.out) hb);clear BK143;clear HB;have BK143 := n0_;have HB := n1_;clear n0_ n1_;(try clear hb);(try clear hb2);(try clear hk);(try clear hi)))
     go_roundg k1
     case measure => have := HK1.out;omega
     case rel => exact ⟨(wrap64 (x8_1 + 1)),Y12,H',⟨by have := HK1.out;omega⟩,⟨Y6 BK143.out⟩,⟨by repeat (first | (with_reducible first | exact HB.out | apply below_alloc | apply Y15 | apply below_drew1 | refine below_set ?_ GE143.out) | exact HB.out)⟩⟩
   ·rw [if_neg c3] at H
    have c3b0 : decide (x8_1 < (l0.length : Int)) = false := decide_eq_false c3
    clear c3
    obtain rfl := Option.some.inj H
    go_wp2
    go_ret
    exact ⟨by first | rfl | (simp [errW_none,errW_some] <;> rfl) | (simp [*,errW_none,errW_some] <;> rfl),by repeat (first | (with_reducible first | exact HB.out | apply below_alloc | apply Y15 | apply below_drew1 | refine below_set ?_ GE143.out) | exact HB.out)⟩
def demand_State__c38.f (k : Nat) (l0 : List (S51)) (a1_0 : Int) : Option (Bool) := (demand_State__c38_.f k l0 a1_0).bind fun t147 => (some (decide (t147 ≥ 0)))
theorem demand_State__c38.mono : ∀ a0 a1 k,LeO (demand_State__c38.f k a0 a1) (demand_State__c38.f (k + 1) a0 a1) := by
 intro a0 a1 k
 unfold demand_State__c38.f
 repeat' first
   | (with_reducible exact demand_State__c38_.mono _ _ _)
   | (with_reducible exact LeO.refl _)
   | (with_reducible exact LeO.none _)
   | (with_reducible refine LeO.ite ?_ ?_)
   | (with_reducible refine LeO.bind ?_ (fun _ => ?_))
   | exact demand_State__c38_.mono _ _ _
   | exact LeO.none _
   | refine LeO.ite ?_ ?_
   | refine LeO.bind ?_ (fun _ => ?_)
set_option maxHeartbeats 100000000 in
set_option maxRecDepth 100000 in
theorem demand_State__c38.calls (k : Nat) (A0 : Option Addr) (c0 : Nat) (l0 : List (S51)) (B1_0_ : Nat) (a1_0 : Int) (r : Bool) (w : World) (hr0 : Kd.C k51 w A0 l0.length l0) (hc0 : l0.length ≤ c0) (hx1_0_ : w.heap[B1_0_]? = some (.cells #[.int .i64 a1_0] 3 (0,0))) (h : demand_State__c38.f k l0 a1_0 = some r) :
  Calls Try.prog 36 #[.slice A0 l0.length c0,.func (.func 38) #[] #[.pointer (some ⟨B1_0_,0,none⟩)]] w fun e w' => e = .returned (.bool r) ∧ Below w.heap.size w w' := by
 have HR0 := Yd hr0
 have HC0 := Yd hc0
 clear hr0 hc0
 have BK146 := Yd hx1_0_
 clear hx1_0_
 have HB := Yd (Below.refl w.heap.size w)
 have H : ((demand_State__c38_.f k l0 a1_0).bind fun t147 => (some (decide (t147 ≥ 0)))) = some r := h
 clear h
 replace H := Option.bind_eq_some_iff.mp H
 obtain ⟨t147,A30,H⟩ := H
 replace H : (some (decide (t147 ≥ 0))) = some r := H
 have A3 := Yd A30
 clear A30
 obtain rfl := Option.some.inj H
 go_enter Try.func36,Try.ntmps36
 go_wp2_with (first | ((with_reducible refine gate_callee (f := 53) rfl ?_);refine goesL_ (some 7) rfl rfl Try.func53 (by kernel_rfl) rfl #[.slice A0 l0.length c0,.func (.func 38) #[] #[.pointer (some ⟨B1_0_,0,none⟩)]] rfl Y8 ?_;(with_reducible refine (demand_State__c38_.calls k _ _ l0 B1_0_ a1_0 t147 _ ?side1 ?side2 ?side3 A3.out).mono ?_);(case side1 => repeat (first | exact HR0.out | (with_reducible refine Kd.C_alloc ?_ _) | (with_reducible refine Kd.C_drewN ?_ _) | (with_reducible refine Kd.C_drew ?_)));(case side2 => exact HC0.out);(case side3 => exact (Y6 BK146.out));rintro e w4 ⟨rfl,hb⟩;refine ⟨_,rfl,?_⟩;have n0_ := Yd (blk_below (g := B1_0_) (o := .cells #[.int .i64 a1_0] 3 (0,0)) (Y6 BK146.out) hb);have n1_ := Yd (below_step (by first | exact Y4 HB.out GE146.out | exact Y3 HB.out) hb);clear BK146;clear HB;have BK146 := n0_;have HB := n1_;clear n0_ n1_;(try clear hb);(try clear hb2);(try clear hk);(try clear hi)))
 go_ret
 exact ⟨by first | rfl | (simp [errW_none,errW_some] <;> rfl) | (simp [*,errW_none,errW_some] <;> rfl),by repeat (first | (with_reducible first | exact HB.out | apply below_alloc | apply Y15 | apply below_drew1 | refine below_set ?_ GE146.out) | exact HB.out)⟩
def demand_check.j0 : Nat → List (S51) → Bool → Int → Option (Int)
 | 0,_,_,_ => none
 | k + 1,x1,x31,x149000 => if x31 = true then (some 1) else ((demand_State__c38.f k x1 x149000).bind fun t153 => (if t153 = true then (some 8) else (some 0)))
def demand_check.f (k : Nat) (l0 : List (S43)) (l1 : List (S51)) (a2 : Int) (l3 : List Int) : Option (Int) := (demand_Check.f k l0).bind fun t149 => (if t149 = 0 then ((demand_analog.f k l3).bind fun t150 => (if t150 = true then (if (l1.length : Int) = (l0.length : Int) then ((demand_between_int.f a2 0 6311433599).bind fun t151 => (if t151 = true then ((demand_State__c37.f k l1).bind fun t152 => (demand_check.j0 k l1 t152 a2)) else (demand_check.j0 k l1 true a2))) else (demand_check.j0 k l1 true a2)) else (some 6))) else (some t149))
theorem demand_check.mono_l : ∀ k,(∀ y0 y1 y2,LeO (demand_check.j0 k y0 y1 y2) (demand_check.j0 (k + 1) y0 y1 y2))
 | 0 => fun _ _ _ r h => by simp [demand_check.j0] at h
 | k + 1 => by
  have ih0 := demand_check.mono_l k
  ·intro y0 y1 y2
   unfold demand_check.j0
   repeat' first
   | (with_reducible exact ih0 _ _ _)
   | (with_reducible exact demand_Check.mono _ _)
   | (with_reducible exact demand_State__c37.mono _ _)
   | (with_reducible exact demand_State__c38.mono _ _ _)
   | (with_reducible exact demand_analog.mono _ _)
   | (with_reducible exact LeO.refl _)
   | (with_reducible exact LeO.none _)
   | (with_reducible refine LeO.ite ?_ ?_)
   | (with_reducible refine LeO.bind ?_ (fun _ => ?_))
   | exact ih0 _ _ _
   | exact demand_Check.mono _ _
   | exact demand_State__c37.mono _ _
   | exact demand_State__c38.mono _ _ _
   | exact demand_analog.mono _ _
   | exact LeO.none _
   | refine LeO.ite ?_ ?_
   | refine LeO.bind ?_ (fun _ => ?_)
theorem demand_check.mono : ∀ a0 a1 a2 a3 k,LeO (demand_check.f k a0 a1 a2 a3) (demand_check.f (k + 1) a0 a1 a2 a3) := by
 intro a0 a1 a2 a3 k
 have ih0 := demand_check.mono_l k
 unfold demand_check.f
 repeat' first
   | (with_reducible exact ih0 _ _ _)
   | (with_reducible exact demand_Check.mono _ _)
   | (with_reducible exact demand_State__c37.mono _ _)
   | (with_reducible exact demand_State__c38.mono _ _ _)
   | (with_reducible exact demand_analog.mono _ _)
   | (with_reducible exact LeO.refl _)
   | (with_reducible exact LeO.none _)
   | (with_reducible refine LeO.ite ?_ ?_)
   | (with_reducible refine LeO.bind ?_ (fun _ => ?_))
   | exact ih0 _ _ _
   | exact demand_Check.mono _ _
   | exact demand_State__c37.mono _ _
   | exact demand_State__c38.mono _ _ _
   | exact demand_analog.mono _ _
   | exact LeO.none _
   | refine LeO.ite ?_ ?_
   | refine LeO.bind ?_ (fun _ => ?_)
set_option maxHeartbeats 100000000 in
set_option maxRecDepth 100000 in
theorem demand_check.calls (k : Nat) (A0 : Option Addr) (c0 : Nat) (l0 : List (S43)) (A1 : Option Addr) (c1 : Nat) (l1 : List (S51)) (a2 : Int) (A3 : Option Addr) (c3 : Nat) (l3 : List Int) (r : Int) (w : World) (hr0 : Kd.C k43 w A0 l0.length l0) (hc0 : l0.length ≤ c0) (hr1 : Kd.C k51 w A1 l1.length l1) (hc1 : l1.length ≤ c1) (hr3 : Kd.C (Kd.int .i64) w A3 l3.length l3) (hc3 : l3.length ≤ c3) (h : demand_check.f k l0 l1 a2 l3 = some r) :
  Calls Try.prog 22 #[.slice A0 l0.length c0,.slice A1 l1.length c1,.int .i64 a2,.slice A3 l3.length c3] w fun e w' => e = .returned (.int .i64 r) ∧ Below w.heap.size w w' := by
 have HR0 := Yd hr0
 have HC0 := Yd hc0
 clear hr0 hc0
 have HR1 := Yd hr1
 have HC1 := Yd hc1
 clear hr1 hc1
 have HR3 := Yd hr3
 have HC3 := Yd hc3
 clear hr3 hc3
 have HB := Yd (Below.refl w.heap.size w)
 have H : ((demand_Check.f k l0).bind fun t149 => (if t149 = 0 then ((demand_analog.f k l3).bind fun t150 => (if t150 = true then (if (l1.length : Int) = (l0.length : Int) then ((demand_between_int.f a2 0 6311433599).bind fun t151 => (if t151 = true then ((demand_State__c37.f k l1).bind fun t152 => (demand_check.j0 k l1 t152 a2)) else (demand_check.j0 k l1 true a2))) else (demand_check.j0 k l1 true a2)) else (some 6))) else (some t149))) = some r := h
 clear h
 replace H := Option.bind_eq_some_iff.mp H
 obtain ⟨t149,A50,H⟩ := H
 replace H : (if t149 = 0 then ((demand_analog.f k l3).bind fun t150 => (if t150 = true then (if (l1.length : Int) = (l0.length : Int) then ((demand_between_int.f a2 0 6311433599).bind fun t151 => (if t151 = true then ((demand_State__c37.f k l1).bind fun t152 => (demand_check.j0 k l1 t152 a2)) else (demand_check.j0 k l1 true a2))) else (demand_check.j0 k l1 true a2)) else (some 6))) else (some t149)) = some r := H
 have A5 := Yd A50
 clear A50
 by_cases c6 : t149 = 0
 ·rw [if_pos c6] at H
  have c6b0 : (t149 == 0) = true := beq_iff_eq.mpr c6
  have c6b1 : (t149 != 0) = false := bne_eq_false_iff_eq.mpr c6
  clear c6
  replace H := Option.bind_eq_some_iff.mp H
  obtain ⟨t150,A70,H⟩ := H
  replace H : (if t150 = true then (if (l1.length : Int) = (l0.length : Int) then ((demand_between_int.f a2 0 6311433599).bind fun t151 => (if t151 = true then ((demand_State__c37.f k l1).bind fun t152 => (demand_check.j0 k l1 t152 a2)) else (demand_check.j0 k l1 true a2))) else (demand_check.j0 k l1 true a2)) else (some 6)) = some r := H
  have A7 := Yd A70
  clear A70
  by_cases c8 : t150 = true
  ·subst c8
   have H1 : (if (l1.length : Int) = (l0.length : Int) then ((demand_between_int.f a2 0 6311433599).bind fun t151 => (if t151 = true then ((demand_State__c37.f k l1).bind fun t152 => (demand_check.j0 k l1 t152 a2)) else (demand_check.j0 k l1 true a2))) else (demand_check.j0 k l1 true a2)) = some r := by rw [if_pos rfl] at H;exact H
   clear H
   have H := H1
   clear H1
   have HC9 := Yd H
   clear H
   go_enter Try.func22,Try.ntmps22
   go_upto_region 6 with (first | ((with_reducible refine gate_dst (N := 6) rfl ?_);refine box_event ?hg (N := 6) ?hd (cs := #[.int .i64 a2]) (t := 3) ?hr ?_;(case hd => rfl);(case hg => rfl);(case hr => first | (go_simp;done) | (go_simp;rfl));intro gb148 hg w10 hbox hb;have n0_ := Yd (below_step (Y3 HB.out) hb);have n1_ := Yd (hbox);have n2_ := Yd ((by rw [hg];exact (below_size (Y3 HB.out)) : w.heap.size ≤ gb148));have n3_ := Yd ((by rw [hg];exact (below_size (Y3 HB.out)) : w.heap.size ≤ gb148));clear HB;have HB := n0_;have BK148 := n1_;have GW148 := n2_;have GE148 := n3_;clear n0_ n1_ n2_ n3_;clear hb hbox hg) | ((with_reducible refine gate_callee (f := 27) rfl ?_);refine goesL_ (some 11) rfl rfl Try.func27 (by kernel_rfl) rfl #[.slice A0 l0.length c0] rfl Y8 ?_;(with_reducible refine (demand_Check.calls k _ _ l0 t149 _ ?side1 ?side2 A5.out).mono ?_);(case side1 => exact Y11 (Kd.C_below HR0.out HB.out));(case side2 => exact HC0.out);rintro e w11 ⟨rfl,hb⟩;refine ⟨_,rfl,?_⟩;have n0_ := Yd (blk_below (g := gb148) (o := .cells #[.int .i64 a2] 3 (0,0)) (Y6 BK148.out) hb);have n1_ := Yd (below_step (by first | exact Y4 HB.out GE148.out | exact Y3 HB.out) hb);clear BK148;clear HB;have BK148 := n0_;have HB := n1_;clear n0_ n1_;(try clear hb);(try clear hb2);(try clear hk);(try clear hi)) | ((with_reducible refine gate_callee (f := 32) rfl ?_);refine goesL_ (some 16) rfl rfl Try.func32 (by kernel_rfl) rfl #[.slice A3 l3.length c3] rfl Y8 ?_;(with_reducible refine (demand_analog.calls k _ _ l3 true _ ?side1 ?side2 A7.out).mono ?_);(case side1 => exact Y11 (Kd.C_below HR3.out HB.out));(case side2 => exact HC3.out);rintro e w12 ⟨rfl,hb⟩;refine ⟨_,rfl,?_⟩;have n0_ := Yd (blk_below (g := gb148) (o := .cells #[.int .i64 a2] 3 (0,0)) (Y6 BK148.out) hb);have n1_ := Yd (below_step (by first | exact Y4 HB.out GE148.out | exact Y3 HB.out) hb);clear BK148;clear HB;have BK148 := n0_;have HB := n1_;clear n0_ n1_;(try clear hb);(try clear hb2);(try clear hk);(try clear hi)))
   (try simp only [Act.put,List.setIfInBounds_toArray,List.set_cons_zero,List.set_cons_succ])
   go_cut [31] (fun v31 wc => ∃ (kq : Nat) (x31_8 : Bool),v31 = .bool x31_8 ∧ Aside0 (demand_check.j0 kq l1 x31_8 a2 = some r) ∧ Aside0 (kq ≤ k) ∧ Aside0 (wc.heap[gb148]? = some (.cells #[.int .i64 a2] 3 (0,0))) ∧ Aside0 (Below w.heap.size w wc))
   case first =>
    have H := HC9.out
    clear HC9
    by_cases c13 : (l1.length : Int) = (l0.length : Int)
    ·rw [if_pos c13] at H
     have c13b0 : ((l1.length : Int) == (l0.length : Int)) = true := beq_iff_eq.mpr c13
     have c13b1 : ((l1.length : Int) != (l0.length : Int)) = false := bne_eq_false_iff_eq.mpr c13
     have c13b2 : (l1.length == l0.length) = true := by first | simpa using c13 | (simp at c13 ⊢;omega)
     clear c13
     (first | rw [c13b0] | (simp only [i64_w,i32_w];rw [c13b0]) | skip)
     replace H := Option.bind_eq_some_iff.mp H
     obtain ⟨t151,A140,H⟩ := H
     replace H : (if t151 = true then ((demand_State__c37.f k l1).bind fun t152 => (demand_check.j0 k l1 t152 a2)) else (demand_check.j0 k l1 true a2)) = some r := H
     have A14 := Yd A140
     clear A140
     by_cases c15 : t151 = true
     ·subst c15
      have H1 : ((demand_State__c37.f k l1).bind fun t152 => (demand_check.j0 k l1 t152 a2)) = some r := by rw [if_pos rfl] at H;exact H
      clear H
      have H := H1
      clear H1
      replace H := Option.bind_eq_some_iff.mp H
      obtain ⟨t152,A160,H⟩ := H
      replace H : (demand_check.j0 k l1 t152 a2) = some r := H
      have A16 := Yd A160
      clear A160
      have H' := Yd H
      clear H
      have hcz17_0 : w12.cell? ⟨gb148,0,none⟩ = some (.int .i64 a2) := (blk_cell BK148.out 0).trans rfl
      have hfz17_0 := blk_frozen BK148.out 0
      go_wp2_with (first | (go_at_call 34;(with_reducible refine (demand_between_int.calls a2 0 6311433599 true _ A14.out).mono ?_);rintro e w' ⟨rfl,⟨nd,rfl⟩⟩) | (go_at_call 36;(with_reducible refine (demand_State__c37.calls k _ _ l1  t152 _ ?side1 ?side2 A16.out).mono ?_);(case side1 => exact Y11 (Kd.C_below HR1.out (by first | exact Y4 HB.out GE148.out | exact Y3 HB.out)));(case side2 => exact HC1.out);rintro e w18 ⟨rfl,hb⟩;have n0_ := Yd (blk_below (g := gb148) (o := .cells #[.int .i64 a2] 3 (0,0)) (Y6 BK148.out) hb);have n1_ := Yd (below_step (by first | exact Y4 HB.out GE148.out | exact Y3 HB.out) hb);clear BK148;clear HB;have BK148 := n0_;have HB := n1_;clear n0_ n1_;(try clear hb);(try clear hb2);(try clear hk);(try clear hi)))
      go_meet
      case rel => exact ⟨_,(t152),Y12,H',⟨by first | omega | exact Nat.le_refl _⟩,⟨Y6 BK148.out⟩,⟨by repeat (first | (with_reducible first | exact HB.out | apply below_alloc | apply Y15 | apply below_drew1 | refine below_set ?_ GE148.out) | exact HB.out)⟩⟩
     ·replace c15 := Bool.eq_false_iff.mpr c15
      subst c15
      have H1 : (demand_check.j0 k l1 true a2) = some r := by rw [if_neg (show ¬ (false = true) by decide)] at H;exact H
      clear H
      have H := H1
      clear H1
      have H' := Yd H
      clear H
      have hcz19_0 : w12.cell? ⟨gb148,0,none⟩ = some (.int .i64 a2) := (blk_cell BK148.out 0).trans rfl
      have hfz19_0 := blk_frozen BK148.out 0
      go_wp2_with (first | (go_at_call 34;(with_reducible refine (demand_between_int.calls a2 0 6311433599 false _ A14.out).mono ?_);rintro e w' ⟨rfl,⟨nd,rfl⟩⟩))
      go_meet
      case rel => exact ⟨_,(true),Y12,H',⟨by first | omega | exact Nat.le_refl _⟩,⟨Y6 BK148.out⟩,⟨by repeat (first | (with_reducible first | exact HB.out | apply below_alloc | apply Y15 | apply below_drew1 | refine below_set ?_ GE148.out) | exact HB.out)⟩⟩
    ·rw [if_neg c13] at H
     have c13b0 : ((l1.length : Int) == (l0.length : Int)) = false := beq_eq_false_iff_ne.mpr c13
     have c13b1 : ((l1.length : Int) != (l0.length : Int)) = true := bne_iff_ne.mpr c13
     have c13b2 : (l1.length == l0.length) = false := by first | simpa using c13 | (simp at c13 ⊢;omega)
     (first | rw [c13b0] | (simp only [i64_w,i32_w];rw [c13b0]) | skip)
     have H' := Yd H
     clear H
     go_wp2
     go_meet
     case rel => exact ⟨_,(true),Y12,H',⟨by first | omega | exact Nat.le_refl _⟩,⟨Y6 BK148.out⟩,⟨by repeat (first | (with_reducible first | exact HB.out | apply below_alloc | apply Y15 | apply below_drew1 | refine below_set ?_ GE148.out) | exact HB.out)⟩⟩
   case rest =>
    clear HC9
    try clear c1
    try clear c2
    try clear p2
    try clear c3
    try clear c6
    try clear c6b0
    try clear c6b1
    try clear c8
    try clear c13
    try clear c13b0
    try clear c13b1
    try clear c13b2
    try clear c15
    try clear hcz17_0
    try clear hcz19_0
    try clear hfz17_0
    try clear hfz19_0
    obtain ⟨kq,x31_8,rfl,HA,HJ8,BK148,HB⟩ := hcut
    cases kq with
    | zero => exact absurd HA.out (by simp [demand_check.j0])
    | succ kj8 =>
     have H := HA.out
     clear HA
     simp only [demand_check.j0] at H
     by_cases c20 : x31_8 = true
     ·subst c20
      have H1 : (some 1) = some r := by rw [if_pos rfl] at H;exact H
      clear H
      have H := H1
      clear H1
      obtain rfl := Option.some.inj H
      go_wp2
      go_ret
      exact ⟨by first | rfl | (simp [errW_none,errW_some] <;> rfl) | (simp [*,errW_none,errW_some] <;> rfl),by repeat (first | (with_reducible first | exact HB.out | apply below_alloc | apply Y15 | apply below_drew1 | refine below_set ?_ GE148.out) | exact HB.out)⟩
     ·replace c20 := Bool.eq_false_iff.mpr c20
      subst c20
      have H1 : ((demand_State__c38.f kj8 l1 a2).bind fun t153 => (if t153 = true then (some 8) else (some 0))) = some r := by rw [if_neg (show ¬ (false = true) by decide)] at H;exact H
      clear H
      have H := H1
      clear H1
      replace H := Option.bind_eq_some_iff.mp H
      obtain ⟨t153,A210,H⟩ := H
      replace H : (if t153 = true then (some 8) else (some 0)) = some r := H
      have A21 := Yd A210
      clear A210
      by_cases c22 : t153 = true
      ·subst c22
       have H1 : (some 8) = some r := by rw [if_pos rfl] at H;exact H
       clear H
       have H := H1
       clear H1
       obtain rfl := Option.some.inj H
       go_wp2_with (first | ((with_reducible refine gate_callee (f := 36) rfl ?_);refine goesL_ (some 34) rfl rfl Try.func36 (by kernel_rfl) rfl #[.slice A1 l1.length c1,.func (.func 38) #[] #[.pointer (some ⟨gb148,0,none⟩)]] rfl Y8 ?_;(with_reducible refine (demand_State__c38.calls kj8 _ _ l1 gb148 a2 true _ ?side1 ?side2 ?side3 A21.out).mono ?_);(case side1 => exact Y11 (Kd.C_below HR1.out HB.out));(case side2 => exact HC1.out);(case side3 => exact (Y6 BK148.out));rintro e w23 ⟨rfl,hb⟩;refine ⟨_,rfl,?_⟩;have n0_ := Yd (blk_below (g := gb148) (o := .cells #[.int .i64 a2] 3 (0,0)) (Y6 BK148.out) hb);have n1_ := Yd (below_step (by first | exact Y4 HB.out GE148.out | exact Y3 HB.out) hb);clear BK148;clear HB;have BK148 := n0_;have HB := n1_;clear n0_ n1_;(try clear hb);(try clear hb2);(try clear hk);(try clear hi)))
       go_ret
       exact ⟨by first | rfl | (simp [errW_none,errW_some] <;> rfl) | (simp [*,errW_none,errW_some] <;> rfl),by repeat (first | (with_reducible first | exact HB.out | apply below_alloc | apply Y15 | apply below_drew1 | refine below_set ?_ GE148.out) | exact HB.out)⟩
      ·replace c22 := Bool.eq_false_iff.mpr c22
       subst c22
       have H1 : (some 0) = some r := by rw [if_neg (show ¬ (false = true) by decide)] at H;exact H
       clear H
       have H := H1
       clear H1
       obtain rfl := Option.some.inj H
       go_wp2_with (first | ((with_reducible refine gate_callee (f := 36) rfl ?_);refine goesL_ (some 34) rfl rfl Try.func36 (by kernel_rfl) rfl #[.slice A1 l1.length c1,.func (.func 38) #[] #[.pointer (some ⟨gb148,0,none⟩)]] rfl Y8 ?_;(with_reducible refine (demand_State__c38.calls kj8 _ _ l1 gb148 a2 false _ ?side1 ?side2 ?side3 A21.out).mono ?_);(case side1 => exact Y11 (Kd.C_below HR1.out HB.out));(case side2 => exact HC1.out);(case side3 => exact (Y6 BK148.out));rintro e w24 ⟨rfl,hb⟩;refine ⟨_,rfl,?_⟩;have n0_ := Yd (blk_below (g := gb148) (o := .cells #[.int .i64 a2] 3 (0,0)) (Y6 BK148.out) hb);have n1_ := Yd (below_step (by first | exact Y4 HB.out GE148.out | exact Y3 HB.out) hb);clear BK148;clear HB;have BK148 := n0_;have HB := n1_;clear n0_ n1_;(try clear hb);(try clear hb2);(try clear hk);(try clear hi)))
       go_ret
       exact ⟨by first | rfl | (simp [errW_none,errW_some] <;> rfl) | (simp [*,errW_none,errW_some] <;> rfl),by repeat (first | (with_reducible first | exact HB.out | apply below_alloc | apply Y15 | apply below_drew1 | refine below_set ?_ GE148.out) | exact HB.out)⟩
  ·replace c8 := Bool.eq_false_iff.mpr c8
   subst c8
   have H1 : (some 6) = some r := by rw [if_neg (show ¬ (false = true) by decide)] at H;exact H
   clear H
   have H := H1
   clear H1
   obtain rfl := Option.some.inj H
   go_enter Try.func22,Try.ntmps22
   go_wp2_with (first | ((with_reducible refine gate_dst (N := 6) rfl ?_);refine box_event ?hg (N := 6) ?hd (cs := #[.int .i64 a2]) (t := 3) ?hr ?_;(case hd => rfl);(case hg => rfl);(case hr => first | (go_simp;done) | (go_simp;rfl));intro gb148 hg w25 hbox hb;have n0_ := Yd (below_step (Y3 HB.out) hb);have n1_ := Yd (hbox);have n2_ := Yd ((by rw [hg];exact (below_size (Y3 HB.out)) : w.heap.size ≤ gb148));have n3_ := Yd ((by rw [hg];exact (below_size (Y3 HB.out)) : w.heap.size ≤ gb148));clear HB;have HB := n0_;have BK148 := n1_;have GW148 := n2_;have GE148 := n3_;clear n0_ n1_ n2_ n3_;clear hb hbox hg) | ((with_reducible refine gate_callee (f := 27) rfl ?_);refine goesL_ (some 11) rfl rfl Try.func27 (by kernel_rfl) rfl #[.slice A0 l0.length c0] rfl Y8 ?_;(with_reducible refine (demand_Check.calls k _ _ l0 t149 _ ?side1 ?side2 A5.out).mono ?_);(case side1 => exact Y11 (Kd.C_below HR0.out HB.out));(case side2 => exact HC0.out);rintro e w26 ⟨rfl,hb⟩;refine ⟨_,rfl,?_⟩;have n0_ := Yd (blk_below (g := gb148) (o := .cells #[.int .i64 a2] 3 (0,0)) (Y6 BK148.out) hb);have n1_ := Yd (below_step (by first | exact Y4 HB.out GE148.out | exact Y3 HB.out) hb);clear BK148;clear HB;have BK148 := n0_;have HB := n1_;clear n0_ n1_;(try clear hb);(try clear hb2);(try clear hk);(try clear hi)) | ((with_reducible refine gate_callee (f := 32) rfl ?_);refine goesL_ (some 16) rfl rfl Try.func32 (by kernel_rfl) rfl #[.slice A3 l3.length c3] rfl Y8 ?_;(with_reducible refine (demand_analog.calls k _ _ l3 false _ ?side1 ?side2 A7.out).mono ?_);(case side1 => exact Y11 (Kd.C_below HR3.out HB.out));(case side2 => exact HC3.out);rintro e w27 ⟨rfl,hb⟩;refine ⟨_,rfl,?_⟩;have n0_ := Yd (blk_below (g := gb148) (o := .cells #[.int .i64 a2] 3 (0,0)) (Y6 BK148.out) hb);have n1_ := Yd (below_step (by first | exact Y4 HB.out GE148.out | exact Y3 HB.out) hb);clear BK148;clear HB;have BK148 := n0_;have HB := n1_;clear n0_ n1_;(try clear hb);(try clear hb2);(try clear hk);(try clear hi)))
   go_ret
   exact ⟨by first | rfl | (simp [errW_none,errW_some] <;> rfl) | (simp [*,errW_none,errW_some] <;> rfl),by repeat (first | (with_reducible first | exact HB.out | apply below_alloc | apply Y15 | apply below_drew1 | refine below_set ?_ GE148.out) | exact HB.out)⟩
 ·rw [if_neg c6] at H
  have c6b0 : (t149 == 0) = false := beq_eq_false_iff_ne.mpr c6
  have c6b1 : (t149 != 0) = true := bne_iff_ne.mpr c6
  obtain rfl := Option.some.inj H
  go_enter Try.func22,Try.ntmps22
  go_wp2_with (first | ((with_reducible refine gate_dst (N := 6) rfl ?_);refine box_event ?hg (N := 6) ?hd (cs := #[.int .i64 a2]) (t := 3) ?hr ?_;(case hd => rfl);(case hg => rfl);(case hr => first | (go_simp;done) | (go_simp;rfl));intro gb148 hg w28 hbox hb;have n0_ := Yd (below_step (Y3 HB.out) hb);have n1_ := Yd (hbox);have n2_ := Yd ((by rw [hg];exact (below_size (Y3 HB.out)) : w.heap.size ≤ gb148));have n3_ := Yd ((by rw [hg];exact (below_size (Y3 HB.out)) : w.heap.size ≤ gb148));clear HB;have HB := n0_;have BK148 := n1_;have GW148 := n2_;have GE148 := n3_;clear n0_ n1_ n2_ n3_;clear hb hbox hg) | ((with_reducible refine gate_callee (f := 27) rfl ?_);refine goesL_ (some 11) rfl rfl Try.func27 (by kernel_rfl) rfl #[.slice A0 l0.length c0] rfl Y8 ?_;(with_reducible refine (demand_Check.calls k _ _ l0 t149 _ ?side1 ?side2 A5.out).mono ?_);(case side1 => exact Y11 (Kd.C_below HR0.out HB.out));(case side2 => exact HC0.out);rintro e w29 ⟨rfl,hb⟩;refine ⟨_,rfl,?_⟩;have n0_ := Yd (blk_below (g := gb148) (o := .cells #[.int .i64 a2] 3 (0,0)) (Y6 BK148.out) hb);have n1_ := Yd (below_step (by first | exact Y4 HB.out GE148.out | exact Y3 HB.out) hb);clear BK148;clear HB;have BK148 := n0_;have HB := n1_;clear n0_ n1_;(try clear hb);(try clear hb2);(try clear hk);(try clear hi)))
  go_ret
  exact ⟨by first | rfl | (simp [errW_none,errW_some] <;> rfl) | (simp [*,errW_none,errW_some] <;> rfl),by repeat (first | (with_reducible first | exact HB.out | apply below_alloc | apply Y15 | apply below_drew1 | refine below_set ?_ GE148.out) | exact HB.out)⟩
end Go.Proofs.Ytcdjhdfjkfbgdaa.PD56
namespace Go.Proofs.Ytcdjhdfjkfbgdaa.PD56
open Go.RowKit Go.Proofs.YtcdjhdfjkfbgdaaW.PrintWords Go.Proofs.YtcdjhdfjkfbgdaaW.PrintLast Go.Proofs.YtcdjhdfjkfbgdaaW.PrintMore
attribute [local go_sem] max2_int min2_int max_two min_two max_three min_three max_four min_four
def cmp_Or_int.l0 : Nat → Int → List Int → Int → Int → Option (Int)
 | 0,_,_,_,_ => none
 | k + 1,x3,x6,x7,x8 => if x8 < x7 then (if 0 ≤ x8 then (if x8 < (x6.length : Int) then (if (rd x6 x8) = x3 then (cmp_Or_int.l0 k x3 x6 x7 (wrap64 (x8 + 1))) else (some (rd x6 x8))) else (none)) else (none)) else (some x3)
def cmp_Or_int.f (k : Nat) (l0 : List Int) : Option (Int) := cmp_Or_int.l0 k 0 l0 (l0.length : Int) 0
theorem cmp_Or_int.mono_l : ∀ k,(∀ y0 y1 y2 y3,LeO (cmp_Or_int.l0 k y0 y1 y2 y3) (cmp_Or_int.l0 (k + 1) y0 y1 y2 y3))
 | 0 => fun _ _ _ _ r h => by simp [cmp_Or_int.l0] at h
 | k + 1 => by
  have ih0 := cmp_Or_int.mono_l k
  ·intro y0 y1 y2 y3
   unfold cmp_Or_int.l0
   repeat' first
   | (with_reducible exact ih0 _ _ _ _)
   | (with_reducible exact LeO.refl _)
   | (with_reducible exact LeO.none _)
   | (with_reducible refine LeO.ite ?_ ?_)
   | (with_reducible refine LeO.bind ?_ (fun _ => ?_))
   | exact ih0 _ _ _ _
   | exact LeO.none _
   | refine LeO.ite ?_ ?_
   | refine LeO.bind ?_ (fun _ => ?_)
theorem cmp_Or_int.mono : ∀ a0 k,LeO (cmp_Or_int.f k a0) (cmp_Or_int.f (k + 1) a0) := by
 intro a0 k
 have ih0 := cmp_Or_int.mono_l k
 unfold cmp_Or_int.f
 repeat' first
   | (with_reducible exact ih0 _ _ _ _)
   | (with_reducible exact LeO.refl _)
   | (with_reducible exact LeO.none _)
   | (with_reducible refine LeO.ite ?_ ?_)
   | (with_reducible refine LeO.bind ?_ (fun _ => ?_))
   | exact ih0 _ _ _ _
   | exact LeO.none _
   | refine LeO.ite ?_ ?_
   | refine LeO.bind ?_ (fun _ => ?_)
set_option maxHeartbeats 100000000 in
set_option maxRecDepth 100000 in
theorem cmp_Or_int.calls (k : Nat) (A0 : Option Addr) (c0 : Nat) (l0 : List Int) (r : Int) (w : World) (hr0 : Kd.C (Kd.int .i64) w A0 l0.length l0) (hc0 : l0.length ≤ c0) (h : cmp_Or_int.f k l0 = some r) :
  Calls Try.prog 41 #[.slice A0 l0.length c0] w fun e w' => e = .returned (.int .i64 r) ∧ Drawn0 w w' := by
 have HR0 := Yd hr0
 have HC0 := Yd hc0
 clear hr0 hc0
 have H : (cmp_Or_int.l0 k 0 l0 (l0.length : Int) 0) = some r := h
 clear h
 have H' := Yd H
 clear H
 go_enter Try.func41,Try.ntmps41
 go_wp2
 go_loopg [8] k (fun kq v8 w' => ∃ (x8_1 : Int),v8 = .int .i64 x8_1 ∧ Aside0 (cmp_Or_int.l0 kq 0 l0 (l0.length : Int) x8_1 = some r) ∧ Aside0 (kq ≤ k) ∧ Drawn0 w w')
 case atStart => exact ⟨(0),Y12,H',⟨Nat.le_refl _⟩,by repeat (first | exact Drawn0.refl _ | apply Drawn0.step)⟩
 case round =>
  clear H'
  obtain ⟨x8_1,rfl,HA,HK1,⟨m1,rfl⟩⟩ := hrel
  cases gk with
  | zero => exact absurd HA.out (by simp [cmp_Or_int.l0])
  | succ k1 =>
   have H := HA.out
   clear HA
   simp only [cmp_Or_int.l0] at H
   by_cases c2 : x8_1 < (l0.length : Int)
   ·rw [if_pos c2] at H
    have c2b0 : decide (x8_1 < (l0.length : Int)) = true := decide_eq_true c2
    clear c2
    by_cases c3 : 0 ≤ x8_1
    case neg => rw [if_neg c3] at H;exact absurd H (by simp)
    rw [if_pos c3] at H
    have c3b0 : decide (0 ≤ x8_1) = true := decide_eq_true c3
    clear c3
    by_cases c4 : x8_1 < (l0.length : Int)
    case neg => rw [if_neg c4] at H;exact absurd H (by simp)
    rw [if_pos c4] at H
    have c4b0 : decide (x8_1 < (l0.length : Int)) = true := decide_eq_true c4
    clear c4
    by_cases c5 : (rd l0 x8_1) = 0
    ·rw [if_pos c5] at H
     have c5b0 : ((rd l0 x8_1) == 0) = true := beq_iff_eq.mpr c5
     have c5b1 : ((rd l0 x8_1) != 0) = false := bne_eq_false_iff_eq.mpr c5
     clear c5
     have H' := Yd H
     clear H
     have p154 : 0 ≤ (x8_1 : Int) := Y9
     have q154 : x8_1 < (l0.length : Int) := Y9
     obtain ⟨ad154,e154,hx154_0⟩ := Kd.at_int HR0.out x8_1 p154 q154
     cases e154
     replace p154 := eq_true p154
     replace q154 := eq_true q154
     go_wp2
     go_roundg k1
     case measure => have := HK1.out;omega
     case rel => exact ⟨(wrap64 (x8_1 + 1)),Y12,H',⟨by have := HK1.out;omega⟩,by repeat (first | exact Drawn0.refl _ | apply Drawn0.step)⟩
    ·rw [if_neg c5] at H
     have c5b0 : ((rd l0 x8_1) == 0) = false := beq_eq_false_iff_ne.mpr c5
     have c5b1 : ((rd l0 x8_1) != 0) = true := bne_iff_ne.mpr c5
     obtain rfl := Option.some.inj H
     have p154 : 0 ≤ (x8_1 : Int) := Y9
     have q154 : x8_1 < (l0.length : Int) := Y9
     obtain ⟨ad154,e154,hx154_0⟩ := Kd.at_int HR0.out x8_1 p154 q154
     cases e154
     replace p154 := eq_true p154
     replace q154 := eq_true q154
     go_wp2
     go_ret
     exact ⟨by first | rfl | (simp;done) | (simp [*];done),by repeat (first | exact Drawn0.refl _ | apply Drawn0.step)⟩
   ·rw [if_neg c2] at H
    have c2b0 : decide (x8_1 < (l0.length : Int)) = false := decide_eq_false c2
    clear c2
    obtain rfl := Option.some.inj H
    go_wp2
    go_ret
    exact ⟨by first | rfl | (simp;done) | (simp [*];done),by repeat (first | exact Drawn0.refl _ | apply Drawn0.step)⟩
def cmp_isNaN_int.f (a0 : Int) : Option (Bool) := some (a0 != a0)
set_option maxHeartbeats 100000000 in
set_option maxRecDepth 100000 in
theorem cmp_isNaN_int.calls (a0 : Int) (r : Bool) (w : World) (h : cmp_isNaN_int.f a0 = some r) :
  Calls Try.prog 56 #[.int .i64 a0] w fun e w' => e = .returned (.bool r) ∧ Drawn0 w w' := by
 have H : (some (a0 != a0)) = some r := h
 clear h
 obtain rfl := Option.some.inj H
 go_enter Try.func56,Try.ntmps56
 go_wp2
 go_ret
 exact ⟨by first | rfl | (simp;done) | (simp [*];done),by repeat (first | exact Drawn0.refl _ | apply Drawn0.step)⟩
def cmp_Compare_int.f (a0 : Int) (a1 : Int) : Option (Int) := (cmp_isNaN_int.f a0).bind fun t155 => ((cmp_isNaN_int.f a1).bind fun t156 => (if t155 = true then (if t156 = true then (some 0) else (some (-1))) else (if t156 = true then (some 1) else (if a0 < a1 then (some (-1)) else (if a0 > a1 then (some 1) else (some 0))))))
set_option maxHeartbeats 100000000 in
set_option maxRecDepth 100000 in
theorem cmp_Compare_int.calls (a0 : Int) (a1 : Int) (r : Int) (w : World) (h : cmp_Compare_int.f a0 a1 = some r) :
  Calls Try.prog 42 #[.int .i64 a0,.int .i64 a1] w fun e w' => e = .returned (.int .i64 r) ∧ Drawn0 w w' := by
 have H : ((cmp_isNaN_int.f a0).bind fun t155 => ((cmp_isNaN_int.f a1).bind fun t156 => (if t155 = true then (if t156 = true then (some 0) else (some (-1))) else (if t156 = true then (some 1) else (if a0 < a1 then (some (-1)) else (if a0 > a1 then (some 1) else (some 0))))))) = some r := h
 clear h
 replace H := Option.bind_eq_some_iff.mp H
 obtain ⟨t155,A30,H⟩ := H
 replace H : ((cmp_isNaN_int.f a1).bind fun t156 => (if t155 = true then (if t156 = true then (some 0) else (some (-1))) else (if t156 = true then (some 1) else (if a0 < a1 then (some (-1)) else (if a0 > a1 then (some 1) else (some 0)))))) = some r := H
 have A3 := Yd A30
 clear A30
 replace H := Option.bind_eq_some_iff.mp H
 obtain ⟨t156,A40,H⟩ := H
 replace H : (if t155 = true then (if t156 = true then (some 0) else (some (-1))) else (if t156 = true then (some 1) else (if a0 < a1 then (some (-1)) else (if a0 > a1 then (some 1) else (some 0))))) = some r := H
 have A4 := Yd A40
 clear A40
 by_cases c5 : t155 = true
 ·subst c5
  have H1 : (if t156 = true then (some 0) else (some (-1))) = some r := by rw [if_pos rfl] at H;exact H
  clear H
  have H := H1
  clear H1
  by_cases c6 : t156 = true
  ·subst c6
   have H1 : (some 0) = some r := by rw [if_pos rfl] at H;exact H
   clear H
   have H := H1
   clear H1
   obtain rfl := Option.some.inj H
   go_enter Try.func42,Try.ntmps42
   go_wp2_with (first | ((with_reducible refine gate_callee (f := 56) rfl ?_);refine goesL_ (some 8) rfl rfl Try.func56 (by kernel_rfl) rfl #[.int .i64 a0] rfl Y8 ?_;(with_reducible refine (cmp_isNaN_int.calls a0 true _ A3.out).mono ?_);rintro e w' ⟨rfl,⟨nd,rfl⟩⟩;refine ⟨_,rfl,?_⟩) | ((with_reducible refine gate_callee (f := 56) rfl ?_);refine goesL_ (some 10) rfl rfl Try.func56 (by kernel_rfl) rfl #[.int .i64 a1] rfl Y8 ?_;(with_reducible refine (cmp_isNaN_int.calls a1 true _ A4.out).mono ?_);rintro e w' ⟨rfl,⟨nd,rfl⟩⟩;refine ⟨_,rfl,?_⟩))
   go_ret
   exact ⟨by first | rfl | (simp;done) | (simp [*];done),by repeat (first | exact Drawn0.refl _ | apply Drawn0.step)⟩
  ·replace c6 := Bool.eq_false_iff.mpr c6
   subst c6
   have H1 : (some (-1)) = some r := by rw [if_neg (show ¬ (false = true) by decide)] at H;exact H
   clear H
   have H := H1
   clear H1
   obtain rfl := Option.some.inj H
   go_enter Try.func42,Try.ntmps42
   go_wp2_with (first | ((with_reducible refine gate_callee (f := 56) rfl ?_);refine goesL_ (some 8) rfl rfl Try.func56 (by kernel_rfl) rfl #[.int .i64 a0] rfl Y8 ?_;(with_reducible refine (cmp_isNaN_int.calls a0 true _ A3.out).mono ?_);rintro e w' ⟨rfl,⟨nd,rfl⟩⟩;refine ⟨_,rfl,?_⟩) | ((with_reducible refine gate_callee (f := 56) rfl ?_);refine goesL_ (some 10) rfl rfl Try.func56 (by kernel_rfl) rfl #[.int .i64 a1] rfl Y8 ?_;(with_reducible refine (cmp_isNaN_int.calls a1 false _ A4.out).mono ?_);rintro e w' ⟨rfl,⟨nd,rfl⟩⟩;refine ⟨_,rfl,?_⟩))
   go_ret
   exact ⟨by first | rfl | (simp;done) | (simp [*];done),by repeat (first | exact Drawn0.refl _ | apply Drawn0.step)⟩
 ·replace c5 := Bool.eq_false_iff.mpr c5
  subst c5
  have H1 : (if t156 = true then (some 1) else (if a0 < a1 then (some (-1)) else (if a0 > a1 then (some 1) else (some 0)))) = some r := by rw [if_neg (show ¬ (false = true) by decide)] at H;exact H
  clear H
  have H := H1
  clear H1
  by_cases c7 : t156 = true
  ·subst c7
   have H1 : (some 1) = some r := by rw [if_pos rfl] at H;exact H
   clear H
   have H := H1
   clear H1
   obtain rfl := Option.some.inj H
   go_enter Try.func42,Try.ntmps42
   go_wp2_with (first | ((with_reducible refine gate_callee (f := 56) rfl ?_);refine goesL_ (some 8) rfl rfl Try.func56 (by kernel_rfl) rfl #[.int .i64 a0] rfl Y8 ?_;(with_reducible refine (cmp_isNaN_int.calls a0 false _ A3.out).mono ?_);rintro e w' ⟨rfl,⟨nd,rfl⟩⟩;refine ⟨_,rfl,?_⟩) | ((with_reducible refine gate_callee (f := 56) rfl ?_);refine goesL_ (some 10) rfl rfl Try.func56 (by kernel_rfl) rfl #[.int .i64 a1] rfl Y8 ?_;(with_reducible refine (cmp_isNaN_int.calls a1 true _ A4.out).mono ?_);rintro e w' ⟨rfl,⟨nd,rfl⟩⟩;refine ⟨_,rfl,?_⟩))
   go_ret
   exact ⟨by first | rfl | (simp;done) | (simp [*];done),by repeat (first | exact Drawn0.refl _ | apply Drawn0.step)⟩
  ·replace c7 := Bool.eq_false_iff.mpr c7
   subst c7
   have H1 : (if a0 < a1 then (some (-1)) else (if a0 > a1 then (some 1) else (some 0))) = some r := by rw [if_neg (show ¬ (false = true) by decide)] at H;exact H
   clear H
   have H := H1
   clear H1
   by_cases c8 : a0 < a1
   ·rw [if_pos c8] at H
    have c8b0 : decide (a0 < a1) = true := decide_eq_true c8
    clear c8
    obtain rfl := Option.some.inj H
    go_enter Try.func42,Try.ntmps42
    go_wp2_with (first | ((with_reducible refine gate_callee (f := 56) rfl ?_);refine goesL_ (some 8) rfl rfl Try.func56 (by kernel_rfl) rfl #[.int .i64 a0] rfl Y8 ?_;(with_reducible refine (cmp_isNaN_int.calls a0 false _ A3.out).mono ?_);rintro e w' ⟨rfl,⟨nd,rfl⟩⟩;refine ⟨_,rfl,?_⟩) | ((with_reducible refine gate_callee (f := 56) rfl ?_);refine goesL_ (some 10) rfl rfl Try.func56 (by kernel_rfl) rfl #[.int .i64 a1] rfl Y8 ?_;(with_reducible refine (cmp_isNaN_int.calls a1 false _ A4.out).mono ?_);rintro e w' ⟨rfl,⟨nd,rfl⟩⟩;refine ⟨_,rfl,?_⟩))
    go_ret
    exact ⟨by first | rfl | (simp;done) | (simp [*];done),by repeat (first | exact Drawn0.refl _ | apply Drawn0.step)⟩
   ·rw [if_neg c8] at H
    have c8b0 : decide (a0 < a1) = false := decide_eq_false c8
    clear c8
    by_cases c9 : a0 > a1
    ·rw [if_pos c9] at H
     have c9b0 : decide (a1 < a0) = true := decide_eq_true c9
     clear c9
     obtain rfl := Option.some.inj H
     go_enter Try.func42,Try.ntmps42
     go_wp2_with (first | ((with_reducible refine gate_callee (f := 56) rfl ?_);refine goesL_ (some 8) rfl rfl Try.func56 (by kernel_rfl) rfl #[.int .i64 a0] rfl Y8 ?_;(with_reducible refine (cmp_isNaN_int.calls a0 false _ A3.out).mono ?_);rintro e w' ⟨rfl,⟨nd,rfl⟩⟩;refine ⟨_,rfl,?_⟩) | ((with_reducible refine gate_callee (f := 56) rfl ?_);refine goesL_ (some 10) rfl rfl Try.func56 (by kernel_rfl) rfl #[.int .i64 a1] rfl Y8 ?_;(with_reducible refine (cmp_isNaN_int.calls a1 false _ A4.out).mono ?_);rintro e w' ⟨rfl,⟨nd,rfl⟩⟩;refine ⟨_,rfl,?_⟩))
     go_ret
     exact ⟨by first | rfl | (simp;done) | (simp [*];done),by repeat (first | exact Drawn0.refl _ | apply Drawn0.step)⟩
    ·rw [if_neg c9] at H
     have c9b0 : decide (a1 < a0) = false := decide_eq_false c9
     clear c9
     obtain rfl := Option.some.inj H
     go_enter Try.func42,Try.ntmps42
     go_wp2_with (first | ((with_reducible refine gate_callee (f := 56) rfl ?_);refine goesL_ (some 8) rfl rfl Try.func56 (by kernel_rfl) rfl #[.int .i64 a0] rfl Y8 ?_;(with_reducible refine (cmp_isNaN_int.calls a0 false _ A3.out).mono ?_);rintro e w' ⟨rfl,⟨nd,rfl⟩⟩;refine ⟨_,rfl,?_⟩) | ((with_reducible refine gate_callee (f := 56) rfl ?_);refine goesL_ (some 10) rfl rfl Try.func56 (by kernel_rfl) rfl #[.int .i64 a1] rfl Y8 ?_;(with_reducible refine (cmp_isNaN_int.calls a1 false _ A4.out).mono ?_);rintro e w' ⟨rfl,⟨nd,rfl⟩⟩;refine ⟨_,rfl,?_⟩))
     go_ret
     exact ⟨by first | rfl | (simp;done) | (simp [*];done),by repeat (first | exact Drawn0.refl _ | apply Drawn0.step)⟩
def cmp_isNaN_int64.f (a0 : Int) : Option (Bool) := some (a0 != a0)
set_option maxHeartbeats 100000000 in
set_option maxRecDepth 100000 in
theorem cmp_isNaN_int64.calls (a0 : Int) (r : Bool) (w : World) (h : cmp_isNaN_int64.f a0 = some r) :
  Calls Try.prog 57 #[.int .i64 a0] w fun e w' => e = .returned (.bool r) ∧ Drawn0 w w' := by
 have H : (some (a0 != a0)) = some r := h
 clear h
 obtain rfl := Option.some.inj H
 go_enter Try.func57,Try.ntmps57
 go_wp2
 go_ret
 exact ⟨by first | rfl | (simp;done) | (simp [*];done),by repeat (first | exact Drawn0.refl _ | apply Drawn0.step)⟩
def cmp_Compare_int64.f (a0 : Int) (a1 : Int) : Option (Int) := (cmp_isNaN_int64.f a0).bind fun t157 => ((cmp_isNaN_int64.f a1).bind fun t158 => (if t157 = true then (if t158 = true then (some 0) else (some (-1))) else (if t158 = true then (some 1) else (if a0 < a1 then (some (-1)) else (if a0 > a1 then (some 1) else (some 0))))))
set_option maxHeartbeats 100000000 in
set_option maxRecDepth 100000 in
theorem cmp_Compare_int64.calls (a0 : Int) (a1 : Int) (r : Int) (w : World) (h : cmp_Compare_int64.f a0 a1 = some r) :
  Calls Try.prog 43 #[.int .i64 a0,.int .i64 a1] w fun e w' => e = .returned (.int .i64 r) ∧ Drawn0 w w' := by
 have H : ((cmp_isNaN_int64.f a0).bind fun t157 => ((cmp_isNaN_int64.f a1).bind fun t158 => (if t157 = true then (if t158 = true then (some 0) else (some (-1))) else (if t158 = true then (some 1) else (if a0 < a1 then (some (-1)) else (if a0 > a1 then (some 1) else (some 0))))))) = some r := h
 clear h
 replace H := Option.bind_eq_some_iff.mp H
 obtain ⟨t157,A30,H⟩ := H
 replace H : ((cmp_isNaN_int64.f a1).bind fun t158 => (if t157 = true then (if t158 = true then (some 0) else (some (-1))) else (if t158 = true then (some 1) else (if a0 < a1 then (some (-1)) else (if a0 > a1 then (some 1) else (some 0)))))) = some r := H
 have A3 := Yd A30
 clear A30
 replace H := Option.bind_eq_some_iff.mp H
 obtain ⟨t158,A40,H⟩ := H
 replace H : (if t157 = true then (if t158 = true then (some 0) else (some (-1))) else (if t158 = true then (some 1) else (if a0 < a1 then (some (-1)) else (if a0 > a1 then (some 1) else (some 0))))) = some r := H
 have A4 := Yd A40
 clear A40
 by_cases c5 : t157 = true
 ·subst c5
  have H1 : (if t158 = true then (some 0) else (some (-1))) = some r := by rw [if_pos rfl] at H;exact H
  clear H
  have H := H1
  clear H1
  by_cases c6 : t158 = true
  ·subst c6
   have H1 : (some 0) = some r := by rw [if_pos rfl] at H;exact H
   clear H
   have H := H1
   clear H1
   obtain rfl := Option.some.inj H
   go_enter Try.func43,Try.ntmps43
   go_wp2_with (first | ((with_reducible refine gate_callee (f := 57) rfl ?_);refine goesL_ (some 8) rfl rfl Try.func57 (by kernel_rfl) rfl #[.int .i64 a0] rfl Y8 ?_;(with_reducible refine (cmp_isNaN_int64.calls a0 true _ A3.out).mono ?_);rintro e w' ⟨rfl,⟨nd,rfl⟩⟩;refine ⟨_,rfl,?_⟩) | ((with_reducible refine gate_callee (f := 57) rfl ?_);refine goesL_ (some 10) rfl rfl Try.func57 (by kernel_rfl) rfl #[.int .i64 a1] rfl Y8 ?_;(with_reducible refine (cmp_isNaN_int64.calls a1 true _ A4.out).mono ?_);rintro e w' ⟨rfl,⟨nd,rfl⟩⟩;refine ⟨_,rfl,?_⟩))
   go_ret
   exact ⟨by first | rfl | (simp;done) | (simp [*];done),by repeat (first | exact Drawn0.refl _ | apply Drawn0.step)⟩
  ·replace c6 := Bool.eq_false_iff.mpr c6
   subst c6
   have H1 : (some (-1)) = some r := by rw [if_neg (show ¬ (false = true) by decide)] at H;exact H
   clear H
   have H := H1
   clear H1
   obtain rfl := Option.some.inj H
   go_enter Try.func43,Try.ntmps43
   go_wp2_with (first | ((with_reducible refine gate_callee (f := 57) rfl ?_);refine goesL_ (some 8) rfl rfl Try.func57 (by kernel_rfl) rfl #[.int .i64 a0] rfl Y8 ?_;(with_reducible refine (cmp_isNaN_int64.calls a0 true _ A3.out).mono ?_);rintro e w' ⟨rfl,⟨nd,rfl⟩⟩;refine ⟨_,rfl,?_⟩) | ((with_reducible refine gate_callee (f := 57) rfl ?_);refine goesL_ (some 10) rfl rfl Try.func57 (by kernel_rfl) rfl #[.int .i64 a1] rfl Y8 ?_;(with_reducible refine (cmp_isNaN_int64.calls a1 false _ A4.out).mono ?_);rintro e w' ⟨rfl,⟨nd,rfl⟩⟩;refine ⟨_,rfl,?_⟩))
   go_ret
   exact ⟨by first | rfl | (simp;done) | (simp [*];done),by repeat (first | exact Drawn0.refl _ | apply Drawn0.step)⟩
 ·replace c5 := Bool.eq_false_iff.mpr c5
  subst c5
  have H1 : (if t158 = true then (some 1) else (if a0 < a1 then (some (-1)) else (if a0 > a1 then (some 1) else (some 0)))) = some r := by rw [if_neg (show ¬ (false = true) by decide)] at H;exact H
  clear H
  have H := H1
  clear H1
  by_cases c7 : t158 = true
  ·subst c7
   have H1 : (some 1) = some r := by rw [if_pos rfl] at H;exact H
   clear H
   have H := H1
   clear H1
   obtain rfl := Option.some.inj H
   go_enter Try.func43,Try.ntmps43
   go_wp2_with (first | ((with_reducible refine gate_callee (f := 57) rfl ?_);refine goesL_ (some 8) rfl rfl Try.func57 (by kernel_rfl) rfl #[.int .i64 a0] rfl Y8 ?_;(with_reducible refine (cmp_isNaN_int64.calls a0 false _ A3.out).mono ?_);rintro e w' ⟨rfl,⟨nd,rfl⟩⟩;refine ⟨_,rfl,?_⟩) | ((with_reducible refine gate_callee (f := 57) rfl ?_);refine goesL_ (some 10) rfl rfl Try.func57 (by kernel_rfl) rfl #[.int .i64 a1] rfl Y8 ?_;(with_reducible refine (cmp_isNaN_int64.calls a1 true _ A4.out).mono ?_);rintro e w' ⟨rfl,⟨nd,rfl⟩⟩;refine ⟨_,rfl,?_⟩))
   go_ret
   exact ⟨by first | rfl | (simp;done) | (simp [*];done),by repeat (first | exact Drawn0.refl _ | apply Drawn0.step)⟩
  ·replace c7 := Bool.eq_false_iff.mpr c7
   subst c7
   have H1 : (if a0 < a1 then (some (-1)) else (if a0 > a1 then (some 1) else (some 0))) = some r := by rw [if_neg (show ¬ (false = true) by decide)] at H;exact H
   clear H
   have H := H1
   clear H1
   by_cases c8 : a0 < a1
   ·rw [if_pos c8] at H
    have c8b0 : decide (a0 < a1) = true := decide_eq_true c8
    clear c8
    obtain rfl := Option.some.inj H
    go_enter Try.func43,Try.ntmps43
    go_wp2_with (first | ((with_reducible refine gate_callee (f := 57) rfl ?_);refine goesL_ (some 8) rfl rfl Try.func57 (by kernel_rfl) rfl #[.int .i64 a0] rfl Y8 ?_;(with_reducible refine (cmp_isNaN_int64.calls a0 false _ A3.out).mono ?_);rintro e w' ⟨rfl,⟨nd,rfl⟩⟩;refine ⟨_,rfl,?_⟩) | ((with_reducible refine gate_callee (f := 57) rfl ?_);refine goesL_ (some 10) rfl rfl Try.func57 (by kernel_rfl) rfl #[.int .i64 a1] rfl Y8 ?_;(with_reducible refine (cmp_isNaN_int64.calls a1 false _ A4.out).mono ?_);rintro e w' ⟨rfl,⟨nd,rfl⟩⟩;refine ⟨_,rfl,?_⟩))
    go_ret
    exact ⟨by first | rfl | (simp;done) | (simp [*];done),by repeat (first | exact Drawn0.refl _ | apply Drawn0.step)⟩
   ·rw [if_neg c8] at H
    have c8b0 : decide (a0 < a1) = false := decide_eq_false c8
    clear c8
    by_cases c9 : a0 > a1
    ·rw [if_pos c9] at H
     have c9b0 : decide (a1 < a0) = true := decide_eq_true c9
     clear c9
     obtain rfl := Option.some.inj H
     go_enter Try.func43,Try.ntmps43
     go_wp2_with (first | ((with_reducible refine gate_callee (f := 57) rfl ?_);refine goesL_ (some 8) rfl rfl Try.func57 (by kernel_rfl) rfl #[.int .i64 a0] rfl Y8 ?_;(with_reducible refine (cmp_isNaN_int64.calls a0 false _ A3.out).mono ?_);rintro e w' ⟨rfl,⟨nd,rfl⟩⟩;refine ⟨_,rfl,?_⟩) | ((with_reducible refine gate_callee (f := 57) rfl ?_);refine goesL_ (some 10) rfl rfl Try.func57 (by kernel_rfl) rfl #[.int .i64 a1] rfl Y8 ?_;(with_reducible refine (cmp_isNaN_int64.calls a1 false _ A4.out).mono ?_);rintro e w' ⟨rfl,⟨nd,rfl⟩⟩;refine ⟨_,rfl,?_⟩))
     go_ret
     exact ⟨by first | rfl | (simp;done) | (simp [*];done),by repeat (first | exact Drawn0.refl _ | apply Drawn0.step)⟩
    ·rw [if_neg c9] at H
     have c9b0 : decide (a1 < a0) = false := decide_eq_false c9
     clear c9
     obtain rfl := Option.some.inj H
     go_enter Try.func43,Try.ntmps43
     go_wp2_with (first | ((with_reducible refine gate_callee (f := 57) rfl ?_);refine goesL_ (some 8) rfl rfl Try.func57 (by kernel_rfl) rfl #[.int .i64 a0] rfl Y8 ?_;(with_reducible refine (cmp_isNaN_int64.calls a0 false _ A3.out).mono ?_);rintro e w' ⟨rfl,⟨nd,rfl⟩⟩;refine ⟨_,rfl,?_⟩) | ((with_reducible refine gate_callee (f := 57) rfl ?_);refine goesL_ (some 10) rfl rfl Try.func57 (by kernel_rfl) rfl #[.int .i64 a1] rfl Y8 ?_;(with_reducible refine (cmp_isNaN_int64.calls a1 false _ A4.out).mono ?_);rintro e w' ⟨rfl,⟨nd,rfl⟩⟩;refine ⟨_,rfl,?_⟩))
     go_ret
     exact ⟨by first | rfl | (simp;done) | (simp [*];done),by repeat (first | exact Drawn0.refl _ | apply Drawn0.step)⟩
end Go.Proofs.Ytcdjhdfjkfbgdaa.PD56
namespace Go.Proofs
open Go.Shelf
def Try.lays106_ren : Go.Shelf.Ren := ⟨fun | 106 => 44 | 213 => 58 | 265 => 74 | n => n, fun | 9 => 9 | 3 => 3 | n => n, fun | n => n⟩
theorem Try.lays106 : Go.Proofs.Lays.n106 Try.prog Try.lays106_ren := {
 mixed := by kernel_rfl
 f106 := Try.func44.trans (congrArg some (by kernel_rfl))
 f213 := Try.func58.trans (congrArg some (by kernel_rfl))
 f265 := Try.func74.trans (congrArg some (by kernel_rfl))
 t3 := Try.underlying3
 a3 := Try.isAgg3
 z3 := Try.sizeOf3
 v3 := Try.zeroValue3
 t9 := Try.underlying9
 a9 := Try.isAgg9
 z9 := Try.sizeOf9
 v9 := Try.zeroValue9 }
open Go.RowKit in
theorem Try.strings_Compare (a b : ByteArray) (w : World) :
  Calls Try.prog 44 #[.string a, .string b] w fun e w' => e = .returned (.int .i64 (Lib.compareBytes a.data.toList b.data.toList)) ∧ w' = w := Any.strings_Compare Try.lays106 a b w
def Try.laysSlF6_f39_ren : Go.Shelf.Ren := ⟨fun | 6 => 39 | 15 => 55 | 14 => 54 | 28 => 72 | 29 => 73 | 20 => 64 | 21 => 65 | 22 => 66 | 23 => 67 | 24 => 68 | 25 => 69 | 26 => 70 | 27 => 71 | 46 => 75 | 47 => 76 | 48 => 77 | 49 => 78 | 50 => 79 | 57 => 80 | n => n, fun | 22 => 44 | 24 => 3 | 25 => 73 | 3 => 3 | 39 => 83 | 0 => 0 | 53 => 97 | 55 => 99 | 4 => 4 | 46 => 90 | 45 => 89 | 50 => 94 | 5 => 5 | 9 => 9 | 66 => 100 | 70 => 104 | 76 => 106 | 77 => 107 | n => n, fun | n => n⟩
theorem Try.laysSlF6_f39 : Go.Proofs.SlLaysF.n6 Try.prog Try.laysSlF6_f39_ren := {
 mixed := by kernel_rfl
 f6 := ⟨Try.f39.name, by decide, Try.func39.trans (congrArg some (by kernel_rfl))⟩
 f14 := ⟨Try.f54.name, by decide, Try.func54.trans (congrArg some (by kernel_rfl))⟩
 f15 := Try.func55.trans (congrArg some (by kernel_rfl))
 f20 := ⟨Try.f64.name, by decide, Try.func64.trans (congrArg some (by kernel_rfl))⟩
 f21 := ⟨Try.f65.name, by decide, Try.func65.trans (congrArg some (by kernel_rfl))⟩
 f22 := ⟨Try.f66.name, by decide, Try.func66.trans (congrArg some (by kernel_rfl))⟩
 f23 := ⟨Try.f67.name, by decide, Try.func67.trans (congrArg some (by kernel_rfl))⟩
 f24 := ⟨Try.f68.name, by decide, Try.func68.trans (congrArg some (by kernel_rfl))⟩
 f25 := ⟨Try.f69.name, by decide, Try.func69.trans (congrArg some (by kernel_rfl))⟩
 f26 := ⟨Try.f70.name, by decide, Try.func70.trans (congrArg some (by kernel_rfl))⟩
 f27 := ⟨Try.f71.name, by decide, Try.func71.trans (congrArg some (by kernel_rfl))⟩
 f28 := Try.func72.trans (congrArg some (by kernel_rfl))
 f29 := Try.func73.trans (congrArg some (by kernel_rfl))
 f46 := ⟨Try.f75.name, by decide, Try.func75.trans (congrArg some (by kernel_rfl))⟩
 f47 := Try.func76.trans (congrArg some (by kernel_rfl))
 f48 := Try.func77.trans (congrArg some (by kernel_rfl))
 f49 := ⟨Try.f78.name, by decide, Try.func78.trans (congrArg some (by kernel_rfl))⟩
 f50 := ⟨Try.f79.name, by decide, Try.func79.trans (congrArg some (by kernel_rfl))⟩
 f57 := ⟨Try.f80.name, by decide, Try.func80.trans (congrArg some (by kernel_rfl))⟩
 t0 := Try.underlying0
 a0 := Try.isAgg0
 z0 := Try.sizeOf0
 v0 := Try.zeroValue0
 t3 := Try.underlying3
 a3 := Try.isAgg3
 z3 := Try.sizeOf3
 v3 := Try.zeroValue3
 t4 := Try.underlying4
 a4 := Try.isAgg4
 z4 := Try.sizeOf4
 v4 := Try.zeroValue4
 t5 := Try.underlying5
 a5 := Try.isAgg5
 z5 := Try.sizeOf5
 v5 := Try.zeroValue5
 t9 := Try.underlying9
 a9 := Try.isAgg9
 z9 := Try.sizeOf9
 v9 := Try.zeroValue9
 t22 := Try.underlying44
 a22 := Try.isAgg44
 z22 := Try.sizeOf44
 v22 := Try.zeroValue44
 a24 := Try.isAgg3
 z24 := Try.sizeOf3
 t25 := Try.underlying73
 a25 := Try.isAgg73
 z25 := Try.sizeOf73
 v25 := Try.zeroValue73
 t39 := Try.underlying83
 a39 := Try.isAgg83
 z39 := Try.sizeOf83
 v39 := Try.zeroValue83
 t45 := Try.underlying89
 a45 := Try.isAgg89
 z45 := Try.sizeOf89
 v45 := Try.zeroValue89
 t46 := Try.underlying90
 a46 := Try.isAgg90
 z46 := Try.sizeOf90
 v46 := Try.zeroValue90
 t50 := Try.underlying94
 a50 := Try.isAgg94
 z50 := Try.sizeOf94
 v50 := Try.zeroValue94
 t53 := Try.underlying97
 a53 := Try.isAgg97
 z53 := Try.sizeOf97
 v53 := Try.zeroValue97
 t55 := Try.underlying99
 a55 := Try.isAgg99
 z55 := Try.sizeOf99
 v55 := Try.zeroValue99
 t66 := Try.underlying100
 a66 := Try.isAgg100
 z66 := Try.sizeOf100
 v66 := Try.zeroValue100
 t70 := Try.underlying104
 a70 := Try.isAgg104
 z70 := Try.sizeOf104
 v70 := Try.zeroValue104
 t76 := Try.underlying106
 a76 := Try.isAgg106
 z76 := Try.sizeOf106
 v76 := Try.zeroValue106
 t77 := Try.underlying107
 a77 := Try.isAgg107
 z77 := Try.sizeOf107
 v77 := Try.zeroValue107 }
open Go.RowKit Go.Lib Go.Sort in
theorem Try.slices_SortFunc {α : Type} [Inhabited α] (enc : α → Value) (h1 : OneCell enc) (cf : α → α → Int) (hO : SWO (ltOf cf)) (g : Nat) (cb : Array Value) (blk off cap : Nat) (d : Array α) (w : World) (eg : ∀ args w, (callFunc g args).run Try.prog w = .ok (.enter g args) w) (hcmp : CmpLays1 Try.prog g cb enc cf blk off d.size w) (hH : Holds enc w blk off d) (hblk : blk < w.heap.size) (hsz : d.size < 4611686018427387904) :
  Calls Try.prog 39 #[.slice (some ⟨blk, off, none⟩) d.size cap, .func (.func g) #[] cb] w fun e w' =>
   e = .returned (.tuple #[]) ∧ ∃ d' n os, PermIn 0 d.size d d' ∧ SortedIn (ltOf cf) 0 d.size d' ∧ w' = sortWorld enc w blk off n d' os := Any.slices_SortFunc Try.laysSlF6_f39 enc h1 cf hO g cb blk off cap d w eg hcmp hH hblk hsz
def Try.laysSlF06_f39_ren : Go.Shelf.Ren := ⟨fun | 6 => 39 | 15 => 55 | 14 => 54 | 28 => 72 | 29 => 73 | 20 => 64 | 21 => 65 | 22 => 66 | 23 => 67 | 24 => 68 | 25 => 69 | 26 => 70 | 27 => 71 | 46 => 75 | 47 => 76 | 48 => 77 | 49 => 78 | 50 => 79 | 57 => 80 | n => n, fun | 22 => 44 | 24 => 3 | 25 => 73 | 3 => 3 | 39 => 83 | 0 => 0 | 53 => 97 | 55 => 99 | 4 => 4 | 46 => 90 | 45 => 89 | 50 => 94 | 5 => 5 | 9 => 9 | 66 => 100 | 70 => 104 | 76 => 106 | 77 => 107 | n => n, fun | n => n⟩
theorem Try.laysSlF06_f39 : Go.Proofs.SlLaysF0.n6 Try.prog Try.laysSlF06_f39_ren := {
 mixed := by kernel_rfl
 f6 := ⟨Try.f39.name, by decide, Try.func39.trans (congrArg some (by kernel_rfl))⟩
 f14 := ⟨Try.f54.name, by decide, Try.func54.trans (congrArg some (by kernel_rfl))⟩
 f15 := Try.func55.trans (congrArg some (by kernel_rfl))
 f20 := ⟨Try.f64.name, by decide, Try.func64.trans (congrArg some (by kernel_rfl))⟩
 f21 := ⟨Try.f65.name, by decide, Try.func65.trans (congrArg some (by kernel_rfl))⟩
 f22 := ⟨Try.f66.name, by decide, Try.func66.trans (congrArg some (by kernel_rfl))⟩
 f23 := ⟨Try.f67.name, by decide, Try.func67.trans (congrArg some (by kernel_rfl))⟩
 f24 := ⟨Try.f68.name, by decide, Try.func68.trans (congrArg some (by kernel_rfl))⟩
 f25 := ⟨Try.f69.name, by decide, Try.func69.trans (congrArg some (by kernel_rfl))⟩
 f26 := ⟨Try.f70.name, by decide, Try.func70.trans (congrArg some (by kernel_rfl))⟩
 f27 := ⟨Try.f71.name, by decide, Try.func71.trans (congrArg some (by kernel_rfl))⟩
 f28 := Try.func72.trans (congrArg some (by kernel_rfl))
 f29 := Try.func73.trans (congrArg some (by kernel_rfl))
 f46 := ⟨Try.f75.name, by decide, Try.func75.trans (congrArg some (by kernel_rfl))⟩
 f47 := Try.func76.trans (congrArg some (by kernel_rfl))
 f48 := Try.func77.trans (congrArg some (by kernel_rfl))
 f49 := ⟨Try.f78.name, by decide, Try.func78.trans (congrArg some (by kernel_rfl))⟩
 f50 := ⟨Try.f79.name, by decide, Try.func79.trans (congrArg some (by kernel_rfl))⟩
 f57 := ⟨Try.f80.name, by decide, Try.func80.trans (congrArg some (by kernel_rfl))⟩
 t0 := Try.underlying0
 a0 := Try.isAgg0
 z0 := Try.sizeOf0
 v0 := Try.zeroValue0
 t3 := Try.underlying3
 a3 := Try.isAgg3
 z3 := Try.sizeOf3
 v3 := Try.zeroValue3
 t4 := Try.underlying4
 a4 := Try.isAgg4
 z4 := Try.sizeOf4
 v4 := Try.zeroValue4
 t5 := Try.underlying5
 a5 := Try.isAgg5
 z5 := Try.sizeOf5
 v5 := Try.zeroValue5
 t9 := Try.underlying9
 a9 := Try.isAgg9
 z9 := Try.sizeOf9
 v9 := Try.zeroValue9
 t22 := Try.underlying44
 a22 := Try.isAgg44
 z22 := Try.sizeOf44
 v22 := Try.zeroValue44
 t25 := Try.underlying73
 a25 := Try.isAgg73
 z25 := Try.sizeOf73
 v25 := Try.zeroValue73
 t39 := Try.underlying83
 a39 := Try.isAgg83
 z39 := Try.sizeOf83
 v39 := Try.zeroValue83
 t45 := Try.underlying89
 a45 := Try.isAgg89
 z45 := Try.sizeOf89
 v45 := Try.zeroValue89
 t46 := Try.underlying90
 a46 := Try.isAgg90
 z46 := Try.sizeOf90
 v46 := Try.zeroValue90
 t50 := Try.underlying94
 a50 := Try.isAgg94
 z50 := Try.sizeOf94
 v50 := Try.zeroValue94
 t53 := Try.underlying97
 a53 := Try.isAgg97
 z53 := Try.sizeOf97
 v53 := Try.zeroValue97
 t55 := Try.underlying99
 a55 := Try.isAgg99
 z55 := Try.sizeOf99
 v55 := Try.zeroValue99
 t66 := Try.underlying100
 a66 := Try.isAgg100
 z66 := Try.sizeOf100
 v66 := Try.zeroValue100
 t70 := Try.underlying104
 a70 := Try.isAgg104
 z70 := Try.sizeOf104
 v70 := Try.zeroValue104
 t76 := Try.underlying106
 a76 := Try.isAgg106
 z76 := Try.sizeOf106
 v76 := Try.zeroValue106
 t77 := Try.underlying107
 a77 := Try.isAgg107
 z77 := Try.sizeOf107
 v77 := Try.zeroValue107 }
open Go.RowKit Go.Lib Go.Sort in
theorem Try.slices_SortFunc_none {α : Type} [Inhabited α] (p : Option Addr) (cap : Nat) (fv : Value) (w : World) :
  Calls Try.prog 39 #[.slice p 0 cap, fv] w fun e w' => e = .returned (.tuple #[]) ∧ w' = w := AnyF.slices_SortFunc_none Try.laysSlF06_f39 p cap fv w
end Go.Proofs
namespace Go.Proofs.Ytcdjhdfjkfbgdaa.PD56
open Go.RowKit Go.Proofs.YtcdjhdfjkfbgdaaW.PrintWords Go.Proofs.YtcdjhdfjkfbgdaaW.PrintLast Go.Proofs.YtcdjhdfjkfbgdaaW.PrintMore
def strings_Compare.f (a0 a1 : ByteArray) : Option Int := some (Go.Lib.compareBytes a0.data.toList a1.data.toList)
theorem strings_Compare.calls (a0 : ByteArray) (a1 : ByteArray) (r : Int) (w : World) (h : strings_Compare.f a0 a1 = some r) :
  Calls Try.prog 44 #[.string a0, .string a1] w fun e w' => e = .returned (.int .i64 r) ∧ Drawn0 w w' := by
 simp only [strings_Compare.f, Option.some.injEq] at h
 subst h
 refine Calls.mono (Try.strings_Compare a0 a1 w) ?_
 rintro e w' ⟨he, rfl⟩
 exact ⟨he, Drawn0.refl _⟩
end Go.Proofs.Ytcdjhdfjkfbgdaa.PD56
namespace Go.Proofs.Ytcdjhdfjkfbgdaa.PD56
open Go.RowKit Go.Proofs.YtcdjhdfjkfbgdaaW.PrintWords Go.Proofs.YtcdjhdfjkfbgdaaW.PrintLast Go.Proofs.YtcdjhdfjkfbgdaaW.PrintMore
attribute [local go_sem] max2_int min2_int max_two min_two max_three min_three max_four min_four
def demand_order_1_.f (k : Nat) (a0 : Int) (a1 : Int) (l2_0 : List (S43)) : Option (Int) := if 0 ≤ a0 then (if a0 < (l2_0.length : Int) then (if 0 ≤ a1 then (if a1 < (l2_0.length : Int) then ((cmp_Compare_int.f ((rd_T43 l2_0 a1).f1) ((rd_T43 l2_0 a0).f1)).bind fun t164 => ((cmp_Compare_int64.f ((rd_T43 l2_0 a1).f2) ((rd_T43 l2_0 a0).f2)).bind fun t165 => ((strings_Compare.f ((rd_T43 l2_0 a0).f0) ((rd_T43 l2_0 a1).f0)).bind fun t166 => ((cmp_Or_int.f k (([t164,t165,t166] : List Int))).bind fun t170 => (some t170))))) else (none)) else (none)) else (none)) else (none)
theorem demand_order_1_.mono : ∀ a0 a1 a2 k,LeO (demand_order_1_.f k a0 a1 a2) (demand_order_1_.f (k + 1) a0 a1 a2) := by
 intro a0 a1 a2 k
 unfold demand_order_1_.f
 repeat' first
   | (with_reducible exact cmp_Or_int.mono _ _)
   | (with_reducible exact LeO.refl _)
   | (with_reducible exact LeO.none _)
   | (with_reducible refine LeO.ite ?_ ?_)
   | (with_reducible refine LeO.bind ?_ (fun _ => ?_))
   | exact cmp_Or_int.mono _ _
   | exact LeO.none _
   | refine LeO.ite ?_ ?_
   | refine LeO.bind ?_ (fun _ => ?_)
def demand_order_1_.T1 : Bool × List (List Nat × List Nat) := (true,[([],[]),([],[]),([0,1],[0,1]),([2],[2]),([],[]),([],[]),([4,5],[4,5]),([6],[6]),([],[]),([],[]),([8,3,0,1,2,3,8,9],[3,8]),([9,7,10,0,1,2,3,4,5,6,7,8,9,10],[7,9])])
def demand_order_1_.B1 : List Nat := [0,0,3,7,0,0,48,112,0,0,783,2047]
theorem demand_order_1_.tab1 : rtab .any (opsOf Try.f40 1) = demand_order_1_.T1 := by kernel_rfl
theorem demand_order_1_.bits1 : waitsOk demand_order_1_.T1.2 demand_order_1_.B1 = true := by kernel_rfl
def demand_order_1_.T2 : Bool × List (List Nat × List Nat) := (true,[([],[]),([0],[0]),([],[]),([2],[2]),([1,3],[1,3]),([],[]),([5],[5]),([],[]),([7],[7]),([6,8,4],[6,8]),([],[]),([10],[10]),([],[]),([12],[12]),([11,13,9],[11,13]),([4,9,14],[4,9,14]),([15,14],[15]),([16,16,0,1,2,3,4,5,6,7,8,9,10,11,12,13,14,15,16],[16])])
def demand_order_1_.B2 : List Nat := [0,1,0,4,15,0,32,0,128,511,0,1024,0,4096,16383,32767,65535,131071]
theorem demand_order_1_.tab2 : rtab .any (opsOf Try.f40 2) = demand_order_1_.T2 := by kernel_rfl
theorem demand_order_1_.bits2 : waitsOk demand_order_1_.T2.2 demand_order_1_.B2 = true := by kernel_rfl
end Go.Proofs.Ytcdjhdfjkfbgdaa.PD56
namespace Go.Proofs.Ytcdjhdfjkfbgdaa.PD56.G
open Go.RowKit Go.Proofs.YtcdjhdfjkfbgdaaW.PrintWords Go.Proofs.YtcdjhdfjkfbgdaaW.PrintLast Go.Proofs.YtcdjhdfjkfbgdaaW.PrintMore Go.Proofs.YtcdjhdfjkfbgdaaW
attribute [local go_sem] max2_int min2_int max_two min_two max_three min_three max_four min_four   -- for this text's walks alone
structure Below (B : Nat) (w w' : World) : Prop extends Go.RowKit.Below B w w' where
 drawn : w.drawn ≤ w'.drawn
theorem Below.refl (B : Nat) (w : World) : Below B w w := ⟨Go.RowKit.Below.refl B w,Nat.le_refl _⟩
theorem below_alloc {w W : World} (h : Below w.heap.size w W) (o : Obj) : Below w.heap.size w (W.alloc o) := ⟨PrintWords.below_alloc h.toBelow o,h.drawn⟩
theorem pw_below_drewN {B : Nat} {w W : World} (h : Below B w W) (n : Nat) : Below B w (W.drewN n) := ⟨PrintWords.pw_below_drewN h.toBelow n,Nat.le_trans h.drawn (Nat.le_add_right _ _)⟩
theorem below_drew1 {base : Nat} {w W : World} (h : Below base w W) : Below base w W.drew := ⟨PrintWords.below_drew1 h.toBelow,Nat.le_trans h.drawn (Nat.le_succ _)⟩
theorem drawn_setCell (W : World) (p : Addr) (v : Value) : (W.setCell p v).drawn = W.drawn := by
 unfold World.setCell
 split <;> rfl
theorem below_set {w W : World} {g j : Nat} {v : Value} (h : Below w.heap.size w W) (hg : w.heap.size ≤ g) : Below w.heap.size w (W.setCell ⟨g,j,none⟩ v) := ⟨PrintWords.below_set h.toBelow hg,by rw [drawn_setCell];exact h.drawn⟩
theorem below_size {w W : World} (h : Below w.heap.size w W) : w.heap.size ≤ W.heap.size := h.toBelow.size
theorem below_step {w W w2 : World} (h : Below w.heap.size w W) (k : Below W.heap.size W w2) : Below w.heap.size w w2 := ⟨PrintWords.below_step h.toBelow k.toBelow,Nat.le_trans h.drawn k.drawn⟩
theorem blk_below {w w1 : World} {g : Nat} {o : Obj} (h : w.heap[g]? = some o) (hb : Below w.heap.size w w1) : w1.heap[g]? = some o := PrintWords.blk_below h hb.toBelow
section
variable {P : Program} {ops : Array Oper} {rest : List Oper} {o : Oper} {a : Act} {Q : Exit → Act → World → Prop} {Kc : Act → World → Prop}
theorem box_event {W : World} (hgd : o.guard = none) {N : Tmp} (_hd : o.dst = some N) {cs : Array Value} {t : TypeId}
  (hrun : (execOp a.eval o).run P W = .ok (.value (.pointer (some ⟨W.heap.size,0,none⟩))) (W.alloc (.cells cs t (0,0))))
  (h : ∀ g,g = W.heap.size → ∀ w1,w1.heap[g]? = some (.cells cs t (0,0)) → Below W.heap.size W w1 → wpList P ops Q rest (a.put o.dst (.pointer (some ⟨g,0,none⟩))) w1) : wpList P ops Q (o :: rest) a W :=
 PrintWords.Kd.event_run hgd hrun (h _ rfl _ (blk_new W _) (below_alloc (Below.refl _ _) _))
theorem box_step {W : World} (hw : Region.wanted o (yielded ops a.tmps) = true) {N : Tmp} (_hd : o.dst = some N) {cs : Array Value} {t : TypeId}
  (hrun : (execOp a.eval o).run P W = .ok (.value (.pointer (some ⟨W.heap.size,0,none⟩))) (W.alloc (.cells cs t (0,0))))
  (h : ∀ g,g = W.heap.size → ∀ w1,w1.heap[g]? = some (.cells cs t (0,0)) → Below W.heap.size W w1 → Kc (a.put o.dst (.pointer (some ⟨g,0,none⟩))) w1) : if Region.wanted o (yielded ops a.tmps) = true then Oper.wp P o a W Kc Q else Kc (a.put o.dst undef) W :=
 PrintWords.event_step hw hrun (h _ rfl _ (blk_new W _) (below_alloc (Below.refl _ _) _))
theorem Kd.R_lit_step {α : Type} (d : Kd α) {w0 W : World} (base e : Nat) (hw : Region.wanted o (yielded ops a.tmps) = true) {N : Tmp} (_hd : o.dst = some N) {xs : List α} {inner : List Value} {ok okp : Nat → Prop}
  (hrun : (execOp a.eval o).run P W = .ok (.value (.slice (some ⟨W.heap.size,0,none⟩) xs.length xs.length)) (W.alloc (.cells inner.toArray e)))
  (hrep : Reps (d.M W base okp) d.sz xs inner) (hok : ∀ k,okp k → ok k) (hfresh : ok W.heap.size) (HB : Below base w0 W) (hbase : base ≤ W.heap.size) (hm : xs.length ≤ 9223372036854775807)
  (h : ∀ v1 w1,d.R e w1 base ok v1 xs → Below base w0 w1 → W.grownBy w1 none → (∃ b,v1.ownBlock = some b ∧ W.heap.size ≤ b) → Kc (a.put o.dst v1) w1) : if Region.wanted o (yielded ops a.tmps) = true then Oper.wp P o a W Kc Q else Kc (a.put o.dst undef) W := by
 refine PrintWords.event_step hw hrun (h _ _ ⟨fun k hk => ?_,inner,?_,?_⟩ ⟨HB.toBelow.alloc hbase _,HB.drawn⟩ (World.grownBy_alloc W _ none) ⟨W.heap.size,by simp [Value.ownBlock],Nat.le_refl _⟩)
 ·have : W.heap.size = k := by simpa [Value.ownBlock] using hk
  subst this
  exact hfresh
 ·have h2 := World.ownsRow_lit (base := base) (e := e) (size := d.sz) W inner.toArray xs.length hbase (by simpa [maxLen] using hm) (by simpa using hrep.1)
  simpa using h2
 ·refine hrep.imp_ (fun p c hp => d.M_mono (fun k hk => ⟨hok k hk.1,fun he => ?_⟩) (PrintWords.Kd.M_below (d.M_bound hp) (PrintWords.below_alloc (Go.RowKit.Below.refl _ _) _)))
  have h3 : k = W.heap.size := by simpa [Value.ownBlock] using he
  have := hk.2.2.1
  omega
end
theorem Kd.R_below {α : Type} {d : Kd α} {e : Nat} {w w1 : World} {base : Nat} {ok : Nat → Prop} {v : Value} {xs : List α} (h : d.R e w base ok v xs) (hb : Below w.heap.size w w1) : d.R e w1 base ok v xs := PrintWords.Kd.R_below h hb.toBelow
theorem grew_of {w w' : World} (h : Below w.heap.size w w') : ∃ q os,w' = Sort.grow (w.drewN q) os := by
 refine ⟨w'.drawn - w.drawn,w'.heap.extract w.heap.size w'.heap.size,?_⟩
 have hd := h.drawn
 have h1 := h.toBelow.os
 have h2 := h.toBelow.tape
 have h3 := h.toBelow.output
 have h4 := h.toBelow.size
 have h5 := h.toBelow.block
 cases w with
 | mk heap tape drawn os output =>
 cases w' with
 | mk heap' tape' drawn' os' output' =>
 simp only at hd h1 h2 h3 h4 h5 ⊢
 subst h1 h2 h3
 have e1 : drawn' = drawn + (drawn' - drawn) := by omega
 have e2 : heap' = heap ++ heap'.extract heap.size heap'.size := by
  apply Array.ext_getElem?
  intro i
  by_cases hi : i < heap.size
  ·rw [Array.getElem?_append_left hi]
   exact h5 i hi
  ·rw [Array.getElem?_append_right (by omega),Array.getElem?_extract]
   by_cases hj : i < heap'.size
   ·rw [if_pos (by omega)]
    congr 1
    omega
   ·rw [if_neg (by omega),Array.getElem?_eq_none (by omega)]
 show World.mk heap' _ drawn' _ _ = World.mk (heap ++ _) _ (drawn + _) _ _
 rw [← e2,← e1]
 rfl
set_option maxHeartbeats 100000000 in
set_option maxRecDepth 100000 in
theorem demand_order_1_.calls (k : Nat) (a0 : Int) (a1 : Int) (B2_0_ : Nat) (A2_0 : Option Addr) (c2_0 : Nat) (l2_0 : List (S43)) (r : Int) (w : World) (hr2_0 : Kd.C k43 w A2_0 l2_0.length l2_0) (hc2_0 : l2_0.length ≤ c2_0) (hx2_0_ : w.heap[B2_0_]? = some (.cells #[.slice A2_0 l2_0.length c2_0] 22 (0,0))) (h : demand_order_1_.f k a0 a1 l2_0 = some r) :
  Calls Try.prog 40 #[.int .i64 a0,.int .i64 a1,.pointer (some ⟨B2_0_,0,none⟩)] w fun e w' => e = .returned (.int .i64 r) ∧ Below w.heap.size w w' := by
 have hu43 := Try.underlying43
 have HR2_0 := Yd hr2_0
 have HC2_0 := Yd hc2_0
 clear hr2_0 hc2_0
 have BK159 := Yd hx2_0_
 clear hx2_0_
 have HB := Yd (Below.refl w.heap.size w)
 have H : (if 0 ≤ a0 then (if a0 < (l2_0.length : Int) then (if 0 ≤ a1 then (if a1 < (l2_0.length : Int) then ((cmp_Compare_int.f ((rd_T43 l2_0 a1).f1) ((rd_T43 l2_0 a0).f1)).bind fun t164 => ((cmp_Compare_int64.f ((rd_T43 l2_0 a1).f2) ((rd_T43 l2_0 a0).f2)).bind fun t165 => ((strings_Compare.f ((rd_T43 l2_0 a0).f0) ((rd_T43 l2_0 a1).f0)).bind fun t166 => ((cmp_Or_int.f k (([t164,t165,t166] : List Int))).bind fun t170 => (some t170))))) else (none)) else (none)) else (none)) else (none)) = some r := h
 clear h
 by_cases c4 : 0 ≤ a0
 case neg => rw [if_neg c4] at H;exact absurd H (by simp)
 rw [if_pos c4] at H
 have c4b0 : decide (0 ≤ a0) = true := decide_eq_true c4
 clear c4
 by_cases c5 : a0 < (l2_0.length : Int)
 case neg => rw [if_neg c5] at H;exact absurd H (by simp)
 rw [if_pos c5] at H
 have c5b0 : decide (a0 < (l2_0.length : Int)) = true := decide_eq_true c5
 clear c5
 by_cases c6 : 0 ≤ a1
 case neg => rw [if_neg c6] at H;exact absurd H (by simp)
 rw [if_pos c6] at H
 have c6b0 : decide (0 ≤ a1) = true := decide_eq_true c6
 clear c6
 by_cases c7 : a1 < (l2_0.length : Int)
 case neg => rw [if_neg c7] at H;exact absurd H (by simp)
 rw [if_pos c7] at H
 have c7b0 : decide (a1 < (l2_0.length : Int)) = true := decide_eq_true c7
 clear c7
 replace H := Option.bind_eq_some_iff.mp H
 obtain ⟨t164,A80,H⟩ := H
 replace H : ((cmp_Compare_int64.f ((rd_T43 l2_0 a1).f2) ((rd_T43 l2_0 a0).f2)).bind fun t165 => ((strings_Compare.f ((rd_T43 l2_0 a0).f0) ((rd_T43 l2_0 a1).f0)).bind fun t166 => ((cmp_Or_int.f k (([t164,t165,t166] : List Int))).bind fun t170 => (some t170)))) = some r := H
 have A8 := Yd A80
 clear A80
 replace H := Option.bind_eq_some_iff.mp H
 obtain ⟨t165,A90,H⟩ := H
 replace H : ((strings_Compare.f ((rd_T43 l2_0 a0).f0) ((rd_T43 l2_0 a1).f0)).bind fun t166 => ((cmp_Or_int.f k (([t164,t165,t166] : List Int))).bind fun t170 => (some t170))) = some r := H
 have A9 := Yd A90
 clear A90
 replace H := Option.bind_eq_some_iff.mp H
 obtain ⟨t166,A100,H⟩ := H
 replace H : ((cmp_Or_int.f k (([t164,t165,t166] : List Int))).bind fun t170 => (some t170)) = some r := H
 have A10 := Yd A100
 clear A100
 obtain ⟨y167,hy167⟩ : ∃ y_ : List Int,y_ = (([t164,t165,t166] : List Int)) := ⟨_,rfl⟩
 replace H : ((cmp_Or_int.f k y167).bind fun t170 => (some t170)) = some r := by first | (rw [hy167];with_reducible exact H) | (have H2_ := (Option.bind_some _ _).symm.trans H;rw [hy167];with_reducible exact H2_) | (have H2_ := (Option.bind_some _ _).symm.trans H;with_reducible exact H2_) | with_reducible exact H | (rw [hy167];exact H) | exact H
 have Ny167 := Yd hy167
 clear hy167
 replace H := Option.bind_eq_some_iff.mp H
 obtain ⟨t170,A110,H⟩ := H
 replace H : (some t170) = some r := H
 have A11 := Yd A110
 clear A110
 obtain rfl := Option.some.inj H
 go_enter Try.func40,Try.ntmps40
 try go_wp2
 have n0_ := Yd (blk_drew BK159.out)
 have n1_ := Yd (below_drew1 HB.out)
 clear BK159
 clear HB
 have BK159 := n0_
 have HB := n1_
 clear n0_ n1_
 have p160 : 0 ≤ (a0 : Int) := Y9
 have q160 : a0 < (l2_0.length : Int) := Y9
 obtain ⟨ad160,e160,hx160_0,hx160_1,hx160_2,hx160_3,hx160_4⟩ := at_T43 HR2_0.out a0 p160 q160
 have hw160_4 := hx160_4
 have hw160_3 := hx160_3
 have hw160_2 := hx160_2
 have hw160_1 := hx160_1
 have hw160_0 := hx160_0
 cases e160
 replace hx160_0 := (HB.out.cell (Y13 w _ hx160_0)).trans hx160_0
 replace hx160_1 := (HB.out.cell (Y13 w _ hx160_1)).trans hx160_1
 replace hx160_2 := (HB.out.cell (Y13 w _ hx160_2)).trans hx160_2
 replace hx160_3 := (HB.out.cell (Y13 w _ hx160_3)).trans hx160_3
 replace hx160_4 := (HB.out.cell (Y13 w _ hx160_4)).trans hx160_4
 replace p160 := eq_true p160
 replace q160 := eq_true q160
 have p161 : 0 ≤ (a1 : Int) := Y9
 have q161 : a1 < (l2_0.length : Int) := Y9
 obtain ⟨ad161,e161,hx161_0,hx161_1,hx161_2,hx161_3,hx161_4⟩ := at_T43 HR2_0.out a1 p161 q161
 have hw161_4 := hx161_4
 have hw161_3 := hx161_3
 have hw161_2 := hx161_2
 have hw161_1 := hx161_1
 have hw161_0 := hx161_0
 obtain rfl : ad160 = ad161 := (by injection e161)
 replace hx161_0 := (HB.out.cell (Y13 w _ hx161_0)).trans hx161_0
 replace hx161_1 := (HB.out.cell (Y13 w _ hx161_1)).trans hx161_1
 replace hx161_2 := (HB.out.cell (Y13 w _ hx161_2)).trans hx161_2
 replace hx161_3 := (HB.out.cell (Y13 w _ hx161_3)).trans hx161_3
 replace hx161_4 := (HB.out.cell (Y13 w _ hx161_4)).trans hx161_4
 replace p161 := eq_true p161
 replace q161 := eq_true q161
 refine start_ (n := 12) (S := fun w' => w'.cell? ⟨B2_0_,0,none⟩ = some (.slice (some ad160) l2_0.length c2_0) ∧ w'.cell? (ad160.add ((a0).toNat * 5)) = some (.string ((rd_T43 l2_0 a0).f0)) ∧ w'.cell? ⟨(ad160.add ((a0).toNat * 5)).block,(ad160.add ((a0).toNat * 5)).off + 1,none⟩ = some (.int .i64 ((rd_T43 l2_0 a0).f1)) ∧ w'.cell? ⟨(ad160.add ((a0).toNat * 5)).block,(ad160.add ((a0).toNat * 5)).off + 2,none⟩ = some (.int .i64 ((rd_T43 l2_0 a0).f2)) ∧ w'.cell? ⟨(ad160.add ((a0).toNat * 5)).block,(ad160.add ((a0).toNat * 5)).off + 3,none⟩ = some (.int .i64 ((rd_T43 l2_0 a0).f3)) ∧ w'.cell? ⟨(ad160.add ((a0).toNat * 5)).block,(ad160.add ((a0).toNat * 5)).off + 4,none⟩ = some (.int .i64 ((rd_T43 l2_0 a0).f4)) ∧ w'.cell? (ad160.add ((a1).toNat * 5)) = some (.string ((rd_T43 l2_0 a1).f0)) ∧ w'.cell? ⟨(ad160.add ((a1).toNat * 5)).block,(ad160.add ((a1).toNat * 5)).off + 1,none⟩ = some (.int .i64 ((rd_T43 l2_0 a1).f1)) ∧ w'.cell? ⟨(ad160.add ((a1).toNat * 5)).block,(ad160.add ((a1).toNat * 5)).off + 2,none⟩ = some (.int .i64 ((rd_T43 l2_0 a1).f2)) ∧ w'.cell? ⟨(ad160.add ((a1).toNat * 5)).block,(ad160.add ((a1).toNat * 5)).off + 3,none⟩ = some (.int .i64 ((rd_T43 l2_0 a1).f3)) ∧ w'.cell? ⟨(ad160.add ((a1).toNat * 5)).block,(ad160.add ((a1).toNat * 5)).off + 4,none⟩ = some (.int .i64 ((rd_T43 l2_0 a1).f4))) (ds := []) #[YF,YF,YF,YF,YF,YF,YF,YF,YF,YF,YF,YF] (by kernel_rfl) rfl rfl ⟨(blk_cell BK159.out 0).trans rfl,((HB.out.cell (Y13 w _ hw160_0)).trans hw160_0),((HB.out.cell (Y13 w _ hw160_1)).trans hw160_1),((HB.out.cell (Y13 w _ hw160_2)).trans hw160_2),((HB.out.cell (Y13 w _ hw160_3)).trans hw160_3),((HB.out.cell (Y13 w _ hw160_4)).trans hw160_4),((HB.out.cell (Y13 w _ hw161_0)).trans hw161_0),((HB.out.cell (Y13 w _ hw161_1)).trans hw161_1),((HB.out.cell (Y13 w _ hw161_2)).trans hw161_2),((HB.out.cell (Y13 w _ hw161_3)).trans hw161_3),((HB.out.cell (Y13 w _ hw161_4)).trans hw161_4)⟩ (fun hHeld => ?_);refine with_tabW demand_order_1_.tab1 demand_order_1_.bits1 (fun HT_ HW_ => ?_)
 generalize w.drew = w12 at BK159 HB hx160_0 hx160_1 hx160_2 hx160_3 hx160_4 hx161_0 hx161_1 hx161_2 hx161_3 hx161_4 hHeld ⊢
 refine pure_ (i := 1) (N := some 9) (v := ?_) (a' := ?_) #[YF,YT,YF,YF,YF,YF,YF,YF,YF,YF,YF,YF] rfl rfl (any_of HT_.out (by kernel_rfl)) (fun _ _ _ h => h) (Or.inl ⟨by rfl,?_⟩) ?_ ?_
 rotate_left
 ·intro w'
  go_simp
  with_reducible rfl
 rotate_left
 ·simp only [Act.put,Ya,Yb,Yc,i64_w,i32_w]
  rfl
 refine pure_ (i := 5) (N := some 13) (v := ?_) (a' := ?_) #[YF,YT,YF,YF,YF,YT,YF,YF,YF,YF,YF,YF] rfl rfl (any_of HT_.out (by kernel_rfl)) (fun _ _ _ h => h) (Or.inl ⟨by rfl,?_⟩) ?_ ?_
 rotate_left
 ·intro w'
  go_simp
  with_reducible rfl
 rotate_left
 ·simp only [Act.put,Ya,Yb,Yc,i64_w,i32_w]
  rfl
 refine take_ (i := 0) (N := some 8) (v := ?_) (a' := ?_) #[YT,YT,YF,YF,YF,YT,YF,YF,YF,YF,YF,YF] rfl rfl (take_ofW HT_.out HW_.out (by kernel_rfl)) (fun _ _ _ h => h) (Or.inl ⟨by rfl,?_⟩) hHeld ?_ ?_
 rotate_left
 ·rintro w' ⟨s0,s1,s2,s3,s4,s5,s6,s7,s8,s9,s10⟩
  go_simp
  with_reducible rfl
 rotate_left
 ·simp only [Act.put,Ya,Yb,Yc,i64_w,i32_w]
  rfl
 refine pure_ (i := 2) (N := some 10) (v := ?_) (a' := ?_) #[YT,YT,YT,YF,YF,YT,YF,YF,YF,YF,YF,YF] rfl rfl (any_of HT_.out (by kernel_rfl)) (fun _ _ _ h => h) (Or.inl ⟨by rfl,?_⟩) ?_ ?_
 rotate_left
 ·intro w'
  go_simp
  with_reducible rfl
 rotate_left
 ·simp only [Act.put,Ya,Yb,Yc,i64_w,i32_w]
  rfl
 refine take_ (i := 3) (N := some 11) (v := ?_) (a' := ?_) #[YT,YT,YT,YT,YF,YT,YF,YF,YF,YF,YF,YF] rfl rfl (take_ofW HT_.out HW_.out (by kernel_rfl)) (fun _ _ _ h => h) (Or.inl ⟨by rfl,?_⟩) hHeld ?_ ?_
 rotate_left
 ·rintro w' ⟨s0,s1,s2,s3,s4,s5,s6,s7,s8,s9,s10⟩
  go_simp
  with_reducible rfl
 rotate_left
 ·simp only [Act.put,Ya,Yb,Yc,i64_w,i32_w]
  rfl
 refine take_ (i := 4) (N := some 12) (v := ?_) (a' := ?_) #[YT,YT,YT,YT,YT,YT,YF,YF,YF,YF,YF,YF] rfl rfl (take_ofW HT_.out HW_.out (by kernel_rfl)) (fun _ _ _ h => h) (Or.inl ⟨by rfl,?_⟩) hHeld ?_ ?_
 rotate_left
 ·rintro w' ⟨s0,s1,s2,s3,s4,s5,s6,s7,s8,s9,s10⟩
  go_simp
  with_reducible rfl
 rotate_left
 ·simp only [Act.put,Ya,Yb,Yc,i64_w,i32_w]
  rfl
 refine pure_ (i := 6) (N := some 14) (v := ?_) (a' := ?_) #[YT,YT,YT,YT,YT,YT,YT,YF,YF,YF,YF,YF] rfl rfl (any_of HT_.out (by kernel_rfl)) (fun _ _ _ h => h) (Or.inl ⟨by rfl,?_⟩) ?_ ?_
 rotate_left
 ·intro w'
  go_simp
  with_reducible rfl
 rotate_left
 ·simp only [Act.put,Ya,Yb,Yc,i64_w,i32_w]
  rfl
 refine take_ (i := 7) (N := some 15) (v := ?_) (a' := ?_) #[YT,YT,YT,YT,YT,YT,YT,YT,YF,YF,YF,YF] rfl rfl (take_ofW HT_.out HW_.out (by kernel_rfl)) (fun _ _ _ h => h) (Or.inl ⟨by rfl,?_⟩) hHeld ?_ ?_
 rotate_left
 ·rintro w' ⟨s0,s1,s2,s3,s4,s5,s6,s7,s8,s9,s10⟩
  go_simp
  with_reducible rfl
 rotate_left
 ·simp only [Act.put,Ya,Yb,Yc,i64_w,i32_w]
  rfl
 refine join_ (σ := Nat × Nat) 2 #[YT,YT,YT,YT,YT,YT,YT,YT,YT,YT,YF,YF] (fun s_ => [(6,.pointer (some ⟨s_.1,0,none⟩)),(7,.pointer (some ⟨s_.2,0,none⟩))]) (fun s_ w' => (w'.cell? ⟨B2_0_,0,none⟩ = some (.slice (some ad160) l2_0.length c2_0) ∧ w'.cell? (ad160.add ((a0).toNat * 5)) = some (.string ((rd_T43 l2_0 a0).f0)) ∧ w'.cell? ⟨(ad160.add ((a0).toNat * 5)).block,(ad160.add ((a0).toNat * 5)).off + 1,none⟩ = some (.int .i64 ((rd_T43 l2_0 a0).f1)) ∧ w'.cell? ⟨(ad160.add ((a0).toNat * 5)).block,(ad160.add ((a0).toNat * 5)).off + 2,none⟩ = some (.int .i64 ((rd_T43 l2_0 a0).f2)) ∧ w'.cell? ⟨(ad160.add ((a0).toNat * 5)).block,(ad160.add ((a0).toNat * 5)).off + 3,none⟩ = some (.int .i64 ((rd_T43 l2_0 a0).f3)) ∧ w'.cell? ⟨(ad160.add ((a0).toNat * 5)).block,(ad160.add ((a0).toNat * 5)).off + 4,none⟩ = some (.int .i64 ((rd_T43 l2_0 a0).f4)) ∧ w'.cell? (ad160.add ((a1).toNat * 5)) = some (.string ((rd_T43 l2_0 a1).f0)) ∧ w'.cell? ⟨(ad160.add ((a1).toNat * 5)).block,(ad160.add ((a1).toNat * 5)).off + 1,none⟩ = some (.int .i64 ((rd_T43 l2_0 a1).f1)) ∧ w'.cell? ⟨(ad160.add ((a1).toNat * 5)).block,(ad160.add ((a1).toNat * 5)).off + 2,none⟩ = some (.int .i64 ((rd_T43 l2_0 a1).f2)) ∧ w'.cell? ⟨(ad160.add ((a1).toNat * 5)).block,(ad160.add ((a1).toNat * 5)).off + 3,none⟩ = some (.int .i64 ((rd_T43 l2_0 a1).f3)) ∧ w'.cell? ⟨(ad160.add ((a1).toNat * 5)).block,(ad160.add ((a1).toNat * 5)).off + 4,none⟩ = some (.int .i64 ((rd_T43 l2_0 a1).f4))) ∧ (w'.heap[B2_0_]? = some (.cells #[.slice (some ad160) l2_0.length c2_0] 22 (0,0))) ∧ (w'.heap[s_.1]? = some (.cells #[.string (⟨#[]⟩ : ByteArray),.int .i64 0,.int .i64 0,.int .i64 0,.int .i64 0] 43 (0,0))) ∧ (w'.heap[s_.2]? = some (.cells #[.string (⟨#[]⟩ : ByteArray),.int .i64 0,.int .i64 0,.int .i64 0,.int .i64 0] 43 (0,0))) ∧ (w.heap.size ≤ s_.1) ∧ (w.heap.size ≤ s_.1) ∧ (B2_0_ ≠ s_.1) ∧ (s_.1 ≠ B2_0_) ∧ (s_.2 ≠ s_.1) ∧ (s_.1 ≠ s_.2) ∧ (w.heap.size ≤ s_.2) ∧ (w.heap.size ≤ s_.2) ∧ (B2_0_ ≠ s_.2) ∧ (s_.2 ≠ B2_0_) ∧ (Below w.heap.size w w')) ?_ ?_
 rotate_left
 ·intro hCont
  refine two_ (i := 8) (j := 9) (Ni := some 6) (Nj := some 7) #[YT,YT,YT,YT,YT,YT,YT,YT,YT,YF,YF,YF] #[YT,YT,YT,YT,YT,YT,YT,YT,YF,YT,YF,YF] rfl rfl rfl rfl (two_of HT_.out (by kernel_rfl)) (by decide) (by decide) (fun K hK => ?_) (fun K hK => ?_)
  ·skip
   refine box_step ?hg (N := 6) ?hd (cs := #[.string (⟨#[]⟩ : ByteArray),.int .i64 0,.int .i64 0,.int .i64 0,.int .i64 0]) (t := 43) ?hr ?_;(case hd => rfl);(case hg => rfl);(case hr => first | (go_simp;done) | (go_simp;rfl))
   intro gb162 hg w13 hbox hb
   have n0_ := Yd (blk_below (g := B2_0_) (o := .cells #[.slice (some ad160) l2_0.length c2_0] 22 (0,0)) (Y6 BK159.out) hb)
   have n1_ := Yd (below_step (by first | exact Y4 HB.out GE159.out | exact Y3 HB.out) hb)
   have n2_ := Yd (hbox)
   have n3_ := Yd ((by rw [hg];exact (below_size (by first | exact Y4 HB.out GE159.out | exact Y3 HB.out)) : w.heap.size ≤ gb162))
   have n4_ := Yd ((by rw [hg];exact (below_size (by first | exact Y4 HB.out GE159.out | exact Y3 HB.out)) : w.heap.size ≤ gb162))
   have n5_ := Yd ((by rw [hg];exact Nat.ne_of_lt (blk_lt (g := B2_0_) (o := .cells #[.slice (some ad160) l2_0.length c2_0] 22 (0,0)) (Y6 BK159.out)) : B2_0_ ≠ gb162))
   have n6_ := Yd ((by rw [hg];exact Nat.ne_of_gt (blk_lt (g := B2_0_) (o := .cells #[.slice (some ad160) l2_0.length c2_0] 22 (0,0)) (Y6 BK159.out)) : gb162 ≠ B2_0_))
   clear BK159
   clear HB
   have BK159 := n0_
   have HB := n1_
   have BK162 := n2_
   have GW162 := n3_
   have GE162 := n4_
   have NB159_162 := n5_
   have NB162_159 := n6_
   clear n0_ n1_ n2_ n3_ n4_ n5_ n6_
   clear hb hbox hg
   refine hK.out _ _ ⟨(blk_cell BK159.out 0).trans rfl,((HB.out.cell (Y13 w _ hw160_0)).trans hw160_0),((HB.out.cell (Y13 w _ hw160_1)).trans hw160_1),((HB.out.cell (Y13 w _ hw160_2)).trans hw160_2),((HB.out.cell (Y13 w _ hw160_3)).trans hw160_3),((HB.out.cell (Y13 w _ hw160_4)).trans hw160_4),((HB.out.cell (Y13 w _ hw161_0)).trans hw161_0),((HB.out.cell (Y13 w _ hw161_1)).trans hw161_1),((HB.out.cell (Y13 w _ hw161_2)).trans hw161_2),((HB.out.cell (Y13 w _ hw161_3)).trans hw161_3),((HB.out.cell (Y13 w _ hw161_4)).trans hw161_4)⟩ (fun hHeld => ?_)
   clear hK K
   refine norm_ (a' := ?_) ?_ ?_
   rotate_left
   ·show Act.put _ (some 6) _ = _
    simp only [Act.put,Ya,Yb,Yc,i64_w,i32_w]
    rfl
   refine one_ (i := 9) (N := some 7) #[YT,YT,YT,YT,YT,YT,YT,YT,YT,YT,YF,YF] rfl rfl (one_of HT_.out (by kernel_rfl)) (by decide) (fun K hK => ?_)
   refine box_step ?hg (N := 7) ?hd (cs := #[.string (⟨#[]⟩ : ByteArray),.int .i64 0,.int .i64 0,.int .i64 0,.int .i64 0]) (t := 43) ?hr ?_;(case hd => rfl);(case hg => rfl);(case hr => first | (go_simp;done) | (go_simp;rfl))
   intro gb163 hg w14 hbox hb
   have n0_ := Yd (blk_below (g := B2_0_) (o := .cells #[.slice (some ad160) l2_0.length c2_0] 22 (0,0)) (Y6 BK159.out) hb)
   have n1_ := Yd (blk_below (g := gb162) (o := .cells #[.string (⟨#[]⟩ : ByteArray),.int .i64 0,.int .i64 0,.int .i64 0,.int .i64 0] 43 (0,0)) (Y6 BK162.out) hb)
   have n2_ := Yd (below_step (by repeat (first | (with_reducible first | exact HB.out | apply below_alloc | apply pw_below_drewN | apply below_drew1 | refine below_set ?_ GE159.out | refine below_set ?_ GE162.out) | exact HB.out)) hb)
   have n3_ := Yd (hbox)
   have n4_ := Yd ((by rw [hg];exact (below_size (by repeat (first | (with_reducible first | exact HB.out | apply below_alloc | apply pw_below_drewN | apply below_drew1 | refine below_set ?_ GE159.out | refine below_set ?_ GE162.out) | exact HB.out))) : w.heap.size ≤ gb163))
   have n5_ := Yd ((by rw [hg];exact (below_size (by repeat (first | (with_reducible first | exact HB.out | apply below_alloc | apply pw_below_drewN | apply below_drew1 | refine below_set ?_ GE159.out | refine below_set ?_ GE162.out) | exact HB.out))) : w.heap.size ≤ gb163))
   have n6_ := Yd ((by rw [hg];exact Nat.ne_of_lt (blk_lt (g := B2_0_) (o := .cells #[.slice (some ad160) l2_0.length c2_0] 22 (0,0)) (Y6 BK159.out)) : B2_0_ ≠ gb163))
   have n7_ := Yd ((by rw [hg];exact Nat.ne_of_gt (blk_lt (g := B2_0_) (o := .cells #[.slice (some ad160) l2_0.length c2_0] 22 (0,0)) (Y6 BK159.out)) : gb163 ≠ B2_0_))
   have n8_ := Yd ((by rw [hg];exact Nat.ne_of_lt (blk_lt (g := gb162) (o := .cells #[.string (⟨#[]⟩ : ByteArray),.int .i64 0,.int .i64 0,.int .i64 0,.int .i64 0] 43 (0,0)) (Y6 BK162.out)) : gb162 ≠ gb163))
   have n9_ := Yd ((by rw [hg];exact Nat.ne_of_gt (blk_lt (g := gb162) (o := .cells #[.string (⟨#[]⟩ : ByteArray),.int .i64 0,.int .i64 0,.int .i64 0,.int .i64 0] 43 (0,0)) (Y6 BK162.out)) : gb163 ≠ gb162))
   clear BK159
   clear BK162
   clear HB
   have BK159 := n0_
   have BK162 := n1_
   have HB := n2_
   have BK163 := n3_
   have GW163 := n4_
   have GE163 := n5_
   have NB159_163 := n6_
   have NB163_159 := n7_
   have NB162_163 := n8_
   have NB163_162 := n9_
   clear n0_ n1_ n2_ n3_ n4_ n5_ n6_ n7_ n8_ n9_
   clear hb hbox hg
   refine hK.out _ _ ⟨(blk_cell BK159.out 0).trans rfl,((HB.out.cell (Y13 w _ hw160_0)).trans hw160_0),((HB.out.cell (Y13 w _ hw160_1)).trans hw160_1),((HB.out.cell (Y13 w _ hw160_2)).trans hw160_2),((HB.out.cell (Y13 w _ hw160_3)).trans hw160_3),((HB.out.cell (Y13 w _ hw160_4)).trans hw160_4),((HB.out.cell (Y13 w _ hw161_0)).trans hw161_0),((HB.out.cell (Y13 w _ hw161_1)).trans hw161_1),((HB.out.cell (Y13 w _ hw161_2)).trans hw161_2),((HB.out.cell (Y13 w _ hw161_3)).trans hw161_3),((HB.out.cell (Y13 w _ hw161_4)).trans hw161_4)⟩ (fun hHeld => ?_)
   clear hK K
   refine norm_ (a' := ?_) ?_ ?_
   rotate_left
   ·show Act.put _ (some 7) _ = _
    simp only [Act.put,Ya,Yb,Yc,i64_w,i32_w]
    rfl
   exact norm_ (by simp only [putAll,Act.put,List.setIfInBounds_toArray,List.set_cons_zero,List.set_cons_succ]) (hCont (gb162,gb163) _ ⟨hHeld,(Y6 BK159.out),(Y6 BK162.out),(Y6 BK163.out),GW162.out,GE162.out,NB159_162.out,NB162_159.out,NB163_162.out,NB162_163.out,GW163.out,GE163.out,NB159_163.out,NB163_159.out,(by repeat (first | (with_reducible first | exact HB.out | apply below_alloc | apply pw_below_drewN | apply below_drew1 | refine below_set ?_ GE159.out | refine below_set ?_ GE162.out | refine below_set ?_ GE163.out) | exact HB.out))⟩)
  ·skip
   refine box_step ?hg (N := 7) ?hd (cs := #[.string (⟨#[]⟩ : ByteArray),.int .i64 0,.int .i64 0,.int .i64 0,.int .i64 0]) (t := 43) ?hr ?_;(case hd => rfl);(case hg => rfl);(case hr => first | (go_simp;done) | (go_simp;rfl))
   intro gb163 hg w13 hbox hb
   have n0_ := Yd (blk_below (g := B2_0_) (o := .cells #[.slice (some ad160) l2_0.length c2_0] 22 (0,0)) (Y6 BK159.out) hb)
   have n1_ := Yd (below_step (by first | exact Y4 HB.out GE159.out | exact Y3 HB.out) hb)
   have n2_ := Yd (hbox)
   have n3_ := Yd ((by rw [hg];exact (below_size (by first | exact Y4 HB.out GE159.out | exact Y3 HB.out)) : w.heap.size ≤ gb163))
   have n4_ := Yd ((by rw [hg];exact (below_size (by first | exact Y4 HB.out GE159.out | exact Y3 HB.out)) : w.heap.size ≤ gb163))
   have n5_ := Yd ((by rw [hg];exact Nat.ne_of_lt (blk_lt (g := B2_0_) (o := .cells #[.slice (some ad160) l2_0.length c2_0] 22 (0,0)) (Y6 BK159.out)) : B2_0_ ≠ gb163))
   have n6_ := Yd ((by rw [hg];exact Nat.ne_of_gt (blk_lt (g := B2_0_) (o := .cells #[.slice (some ad160) l2_0.length c2_0] 22 (0,0)) (Y6 BK159.out)) : gb163 ≠ B2_0_))
   clear BK159
   clear HB
   have BK159 := n0_
   have HB := n1_
   have BK163 := n2_
   have GW163 := n3_
   have GE163 := n4_
   have NB159_163 := n5_
   have NB163_159 := n6_
   clear n0_ n1_ n2_ n3_ n4_ n5_ n6_
   clear hb hbox hg
   refine hK.out _ _ ⟨(blk_cell BK159.out 0).trans rfl,((HB.out.cell (Y13 w _ hw160_0)).trans hw160_0),((HB.out.cell (Y13 w _ hw160_1)).trans hw160_1),((HB.out.cell (Y13 w _ hw160_2)).trans hw160_2),((HB.out.cell (Y13 w _ hw160_3)).trans hw160_3),((HB.out.cell (Y13 w _ hw160_4)).trans hw160_4),((HB.out.cell (Y13 w _ hw161_0)).trans hw161_0),((HB.out.cell (Y13 w _ hw161_1)).trans hw161_1),((HB.out.cell (Y13 w _ hw161_2)).trans hw161_2),((HB.out.cell (Y13 w _ hw161_3)).trans hw161_3),((HB.out.cell (Y13 w _ hw161_4)).trans hw161_4)⟩ (fun hHeld => ?_)
   clear hK K
   refine norm_ (a' := ?_) ?_ ?_
   rotate_left
   ·show Act.put _ (some 7) _ = _
    simp only [Act.put,Ya,Yb,Yc,i64_w,i32_w]
    rfl
   refine one_ (i := 8) (N := some 6) #[YT,YT,YT,YT,YT,YT,YT,YT,YT,YT,YF,YF] rfl rfl (one_of HT_.out (by kernel_rfl)) (by decide) (fun K hK => ?_)
   refine box_step ?hg (N := 6) ?hd (cs := #[.string (⟨#[]⟩ : ByteArray),.int .i64 0,.int .i64 0,.int .i64 0,.int .i64 0]) (t := 43) ?hr ?_;(case hd => rfl);(case hg => rfl);(case hr => first | (go_simp;done) | (go_simp;rfl))
   intro gb162 hg w14 hbox hb
   have n0_ := Yd (blk_below (g := B2_0_) (o := .cells #[.slice (some ad160) l2_0.length c2_0] 22 (0,0)) (Y6 BK159.out) hb)
   have n1_ := Yd (blk_below (g := gb163) (o := .cells #[.string (⟨#[]⟩ : ByteArray),.int .i64 0,.int .i64 0,.int .i64 0,.int .i64 0] 43 (0,0)) (Y6 BK163.out) hb)
   have n2_ := Yd (below_step (by repeat (first | (with_reducible first | exact HB.out | apply below_alloc | apply pw_below_drewN | apply below_drew1 | refine below_set ?_ GE159.out | refine below_set ?_ GE163.out) | exact HB.out)) hb)
   have n3_ := Yd (hbox)
   have n4_ := Yd ((by rw [hg];exact (below_size (by repeat (first | (with_reducible first | exact HB.out | apply below_alloc | apply pw_below_drewN | apply below_drew1 | refine below_set ?_ GE159.out | refine below_set ?_ GE163.out) | exact HB.out))) : w.heap.size ≤ gb162))
   have n5_ := Yd ((by rw [hg];exact (below_size (by repeat (first | (with_reducible first | exact HB.out | apply below_alloc | apply pw_below_drewN | apply below_drew1 | refine below_set ?_ GE159.out | refine below_set ?_ GE163.out) | exact HB.out))) : w.heap.size ≤ gb162))
   have n6_ := Yd ((by rw [hg];exact Nat.ne_of_lt (blk_lt (g := B2_0_) (o := .cells #[.slice (some ad160) l2_0.length c2_0] 22 (0,0)) (Y6 BK159.out)) : B2_0_ ≠ gb162))
   have n7_ := Yd ((by rw [hg];exact Nat.ne_of_gt (blk_lt (g := B2_0_) (o := .cells #[.slice (some ad160) l2_0.length c2_0] 22 (0,0)) (Y6 BK159.out)) : gb162 ≠ B2_0_))
   have n8_ := Yd ((by rw [hg];exact Nat.ne_of_lt (blk_lt (g := gb163) (o := .cells #[.string (⟨#[]⟩ : ByteArray),.int .i64 0,.int .i64 0,.int .i64 0,.int .i64 0] 43 (0,0)) (Y6 BK163.out)) : gb163 ≠ gb162))
   have n9_ := Yd ((by rw [hg];exact Nat.ne_of_gt (blk_lt (g := gb163) (o := .cells #[.string (⟨#[]⟩ : ByteArray),.int .i64 0,.int .i64 0,.int .i64 0,.int .i64 0] 43 (0,0)) (Y6 BK163.out)) : gb162 ≠ gb163))
   clear BK159
   clear BK163
   clear HB
   have BK159 := n0_
   have BK163 := n1_
   have HB := n2_
   have BK162 := n3_
   have GW162 := n4_
   have GE162 := n5_
   have NB159_162 := n6_
   have NB162_159 := n7_
   have NB163_162 := n8_
   have NB162_163 := n9_
   clear n0_ n1_ n2_ n3_ n4_ n5_ n6_ n7_ n8_ n9_
   clear hb hbox hg
   refine hK.out _ _ ⟨(blk_cell BK159.out 0).trans rfl,((HB.out.cell (Y13 w _ hw160_0)).trans hw160_0),((HB.out.cell (Y13 w _ hw160_1)).trans hw160_1),((HB.out.cell (Y13 w _ hw160_2)).trans hw160_2),((HB.out.cell (Y13 w _ hw160_3)).trans hw160_3),((HB.out.cell (Y13 w _ hw160_4)).trans hw160_4),((HB.out.cell (Y13 w _ hw161_0)).trans hw161_0),((HB.out.cell (Y13 w _ hw161_1)).trans hw161_1),((HB.out.cell (Y13 w _ hw161_2)).trans hw161_2),((HB.out.cell (Y13 w _ hw161_3)).trans hw161_3),((HB.out.cell (Y13 w _ hw161_4)).trans hw161_4)⟩ (fun hHeld => ?_)
   clear hK K
   refine norm_ (a' := ?_) ?_ ?_
   rotate_left
   ·show Act.put _ (some 6) _ = _
    simp only [Act.put,Ya,Yb,Yc,i64_w,i32_w]
    rfl
   exact norm_ (by simp only [putAll,Act.put,List.setIfInBounds_toArray,List.set_cons_zero,List.set_cons_succ]) (hCont (gb162,gb163) _ ⟨hHeld,(Y6 BK159.out),(Y6 BK162.out),(Y6 BK163.out),GW162.out,GE162.out,NB159_162.out,NB162_159.out,NB163_162.out,NB162_163.out,GW163.out,GE163.out,NB159_163.out,NB163_159.out,(by repeat (first | (with_reducible first | exact HB.out | apply below_alloc | apply pw_below_drewN | apply below_drew1 | refine below_set ?_ GE159.out | refine below_set ?_ GE163.out | refine below_set ?_ GE162.out) | exact HB.out))⟩)
 rintro ⟨gb162,gb163⟩ w15 ⟨hS_,h0_,h1_,h2_,h3_,h4_,h5_,h6_,h7_,h8_,h9_,h10_,h11_,h12_,h13_⟩
 have n0_ : Aside0 (w15.heap[B2_0_]? = some (.cells #[.slice (some ad160) l2_0.length c2_0] 22 (0,0))) := ⟨h0_⟩
 have n1_ : Aside0 (w15.heap[gb162]? = some (.cells #[.string (⟨#[]⟩ : ByteArray),.int .i64 0,.int .i64 0,.int .i64 0,.int .i64 0] 43 (0,0))) := ⟨h1_⟩
 have n2_ : Aside0 (w15.heap[gb163]? = some (.cells #[.string (⟨#[]⟩ : ByteArray),.int .i64 0,.int .i64 0,.int .i64 0,.int .i64 0] 43 (0,0))) := ⟨h2_⟩
 have n3_ : Aside0 (w.heap.size ≤ gb162) := ⟨h3_⟩
 have n4_ : Aside0 (w.heap.size ≤ gb162) := ⟨h4_⟩
 have n5_ : Aside0 (B2_0_ ≠ gb162) := ⟨h5_⟩
 have n6_ : Aside0 (gb162 ≠ B2_0_) := ⟨h6_⟩
 have n7_ : Aside0 (gb163 ≠ gb162) := ⟨h7_⟩
 have n8_ : Aside0 (gb162 ≠ gb163) := ⟨h8_⟩
 have n9_ : Aside0 (w.heap.size ≤ gb163) := ⟨h9_⟩
 have n10_ : Aside0 (w.heap.size ≤ gb163) := ⟨h10_⟩
 have n11_ : Aside0 (B2_0_ ≠ gb163) := ⟨h11_⟩
 have n12_ : Aside0 (gb163 ≠ B2_0_) := ⟨h12_⟩
 have n13_ : Aside0 (Below w.heap.size w w15) := ⟨h13_⟩
 clear BK159
 clear HB
 clear h0_ h1_ h2_ h3_ h4_ h5_ h6_ h7_ h8_ h9_ h10_ h11_ h12_ h13_
 have BK159 := n0_
 have BK162 := n1_
 have BK163 := n2_
 have GW162 := n3_
 have GE162 := n4_
 have NB159_162 := n5_
 have NB162_159 := n6_
 have NB163_162 := n7_
 have NB162_163 := n8_
 have GW163 := n9_
 have GE163 := n10_
 have NB159_163 := n11_
 have NB163_159 := n12_
 have HB := n13_
 clear n0_ n1_ n2_ n3_ n4_ n5_ n6_ n7_ n8_ n9_ n10_ n11_ n12_ n13_
 have hHeld : w15.cell? ⟨B2_0_,0,none⟩ = some (.slice (some ad160) l2_0.length c2_0) ∧ w15.cell? (ad160.add ((a0).toNat * 5)) = some (.string ((rd_T43 l2_0 a0).f0)) ∧ w15.cell? ⟨(ad160.add ((a0).toNat * 5)).block,(ad160.add ((a0).toNat * 5)).off + 1,none⟩ = some (.int .i64 ((rd_T43 l2_0 a0).f1)) ∧ w15.cell? ⟨(ad160.add ((a0).toNat * 5)).block,(ad160.add ((a0).toNat * 5)).off + 2,none⟩ = some (.int .i64 ((rd_T43 l2_0 a0).f2)) ∧ w15.cell? ⟨(ad160.add ((a0).toNat * 5)).block,(ad160.add ((a0).toNat * 5)).off + 3,none⟩ = some (.int .i64 ((rd_T43 l2_0 a0).f3)) ∧ w15.cell? ⟨(ad160.add ((a0).toNat * 5)).block,(ad160.add ((a0).toNat * 5)).off + 4,none⟩ = some (.int .i64 ((rd_T43 l2_0 a0).f4)) ∧ w15.cell? (ad160.add ((a1).toNat * 5)) = some (.string ((rd_T43 l2_0 a1).f0)) ∧ w15.cell? ⟨(ad160.add ((a1).toNat * 5)).block,(ad160.add ((a1).toNat * 5)).off + 1,none⟩ = some (.int .i64 ((rd_T43 l2_0 a1).f1)) ∧ w15.cell? ⟨(ad160.add ((a1).toNat * 5)).block,(ad160.add ((a1).toNat * 5)).off + 2,none⟩ = some (.int .i64 ((rd_T43 l2_0 a1).f2)) ∧ w15.cell? ⟨(ad160.add ((a1).toNat * 5)).block,(ad160.add ((a1).toNat * 5)).off + 3,none⟩ = some (.int .i64 ((rd_T43 l2_0 a1).f3)) ∧ w15.cell? ⟨(ad160.add ((a1).toNat * 5)).block,(ad160.add ((a1).toNat * 5)).off + 4,none⟩ = some (.int .i64 ((rd_T43 l2_0 a1).f4)) := hS_
 refine norm_ (a' := ?_) ?_ ?_
 rotate_left
 ·simp only [putAll,Act.put,List.setIfInBounds_toArray,List.set_cons_zero,List.set_cons_succ]
  rfl
 refine one_ (i := 10) (N := none) #[YT,YT,YT,YT,YT,YT,YT,YT,YT,YT,YT,YF] rfl rfl (one_of HT_.out (by kernel_rfl)) (by decide) (fun K hK => ?_)
 have hs16 : w15.cell? ⟨gb162,0,none⟩ = some (.string (⟨#[]⟩ : ByteArray)) := (blk_cell BK162.out 0).trans rfl
 have hfs16 := blk_frozen BK162.out 0
 have hns16_0 := NB159_162.out
 have hns16_2 := NB163_162.out
 have hms16_0 := NB162_159.out
 have hms16_2 := NB162_163.out
 have hs17 : w15.cell? ⟨gb162,1,none⟩ = some (.int .i64 0) := (blk_cell BK162.out 1).trans rfl
 have hfs17 := blk_frozen BK162.out 1
 have hns17_0 := NB159_162.out
 have hns17_2 := NB163_162.out
 have hms17_0 := NB162_159.out
 have hms17_2 := NB162_163.out
 have hs18 : w15.cell? ⟨gb162,2,none⟩ = some (.int .i64 0) := (blk_cell BK162.out 2).trans rfl
 have hfs18 := blk_frozen BK162.out 2
 have hns18_0 := NB159_162.out
 have hns18_2 := NB163_162.out
 have hms18_0 := NB162_159.out
 have hms18_2 := NB162_163.out
 have hs19 : w15.cell? ⟨gb162,3,none⟩ = some (.int .i64 0) := (blk_cell BK162.out 3).trans rfl
 have hfs19 := blk_frozen BK162.out 3
 have hns19_0 := NB159_162.out
 have hns19_2 := NB163_162.out
 have hms19_0 := NB162_159.out
 have hms19_2 := NB162_163.out
 have hs20 : w15.cell? ⟨gb162,4,none⟩ = some (.int .i64 0) := (blk_cell BK162.out 4).trans rfl
 have hfs20 := blk_frozen BK162.out 4
 have hns20_0 := NB159_162.out
 have hns20_2 := NB163_162.out
 have hms20_0 := NB162_159.out
 have hms20_2 := NB162_163.out
 refine skip_ (w1 := ?_) (by rfl) rfl ?_ ?_
 rotate_left
 ·go_simp
  rfl
 refine hK.out _ _ ⟨((cell_far (p := ⟨gb162,_,none⟩) NB159_162.out _).trans (((cell_far (p := ⟨gb162,_,none⟩) NB159_162.out _).trans (((cell_far (p := ⟨gb162,_,none⟩) NB159_162.out _).trans (((cell_far (p := ⟨gb162,_,none⟩) NB159_162.out _).trans (((cell_far (p := ⟨gb162,_,none⟩) NB159_162.out _).trans (hHeld.1)))))))))),((cell_far (p := ⟨gb162,_,none⟩) (Y1 ((Y2 hw160_0 GW162.out))) _).trans (((cell_far (p := ⟨gb162,_,none⟩) (Y1 ((Y2 hw160_0 GW162.out))) _).trans (((cell_far (p := ⟨gb162,_,none⟩) (Y1 ((Y2 hw160_0 GW162.out))) _).trans (((cell_far (p := ⟨gb162,_,none⟩) (Y1 ((Y2 hw160_0 GW162.out))) _).trans (((cell_far (p := ⟨gb162,_,none⟩) (Y1 ((Y2 hw160_0 GW162.out))) _).trans (hHeld.2.1)))))))))),((cell_far (p := ⟨gb162,_,none⟩) (Y1 ((Y2 hw160_1 GW162.out))) _).trans (((cell_far (p := ⟨gb162,_,none⟩) (Y1 ((Y2 hw160_1 GW162.out))) _).trans (((cell_far (p := ⟨gb162,_,none⟩) (Y1 ((Y2 hw160_1 GW162.out))) _).trans (((cell_far (p := ⟨gb162,_,none⟩) (Y1 ((Y2 hw160_1 GW162.out))) _).trans (((cell_far (p := ⟨gb162,_,none⟩) (Y1 ((Y2 hw160_1 GW162.out))) _).trans (hHeld.2.2.1)))))))))),((cell_far (p := ⟨gb162,_,none⟩) (Y1 ((Y2 hw160_2 GW162.out))) _).trans (((cell_far (p := ⟨gb162,_,none⟩) (Y1 ((Y2 hw160_2 GW162.out))) _).trans (((cell_far (p := ⟨gb162,_,none⟩) (Y1 ((Y2 hw160_2 GW162.out))) _).trans (((cell_far (p := ⟨gb162,_,none⟩) (Y1 ((Y2 hw160_2 GW162.out))) _).trans (((cell_far (p := ⟨gb162,_,none⟩) (Y1 ((Y2 hw160_2 GW162.out))) _).trans (hHeld.2.2.2.1)))))))))),((cell_far (p := ⟨gb162,_,none⟩) (Y1 ((Y2 hw160_3 GW162.out))) _).trans (((cell_far (p := ⟨gb162,_,none⟩) (Y1 ((Y2 hw160_3 GW162.out))) _).trans (((cell_far (p := ⟨gb162,_,none⟩) (Y1 ((Y2 hw160_3 GW162.out))) _).trans (((cell_far (p := ⟨gb162,_,none⟩) (Y1 ((Y2 hw160_3 GW162.out))) _).trans (((cell_far (p := ⟨gb162,_,none⟩) (Y1 ((Y2 hw160_3 GW162.out))) _).trans (hHeld.2.2.2.2.1)))))))))),((cell_far (p := ⟨gb162,_,none⟩) (Y1 ((Y2 hw160_4 GW162.out))) _).trans (((cell_far (p := ⟨gb162,_,none⟩) (Y1 ((Y2 hw160_4 GW162.out))) _).trans (((cell_far (p := ⟨gb162,_,none⟩) (Y1 ((Y2 hw160_4 GW162.out))) _).trans (((cell_far (p := ⟨gb162,_,none⟩) (Y1 ((Y2 hw160_4 GW162.out))) _).trans (((cell_far (p := ⟨gb162,_,none⟩) (Y1 ((Y2 hw160_4 GW162.out))) _).trans (hHeld.2.2.2.2.2.1)))))))))),((cell_far (p := ⟨gb162,_,none⟩) (Y1 ((Y2 hw161_0 GW162.out))) _).trans (((cell_far (p := ⟨gb162,_,none⟩) (Y1 ((Y2 hw161_0 GW162.out))) _).trans (((cell_far (p := ⟨gb162,_,none⟩) (Y1 ((Y2 hw161_0 GW162.out))) _).trans (((cell_far (p := ⟨gb162,_,none⟩) (Y1 ((Y2 hw161_0 GW162.out))) _).trans (((cell_far (p := ⟨gb162,_,none⟩) (Y1 ((Y2 hw161_0 GW162.out))) _).trans (hHeld.2.2.2.2.2.2.1)))))))))),((cell_far (p := ⟨gb162,_,none⟩) (Y1 ((Y2 hw161_1 GW162.out))) _).trans (((cell_far (p := ⟨gb162,_,none⟩) (Y1 ((Y2 hw161_1 GW162.out))) _).trans (((cell_far (p := ⟨gb162,_,none⟩) (Y1 ((Y2 hw161_1 GW162.out))) _).trans (((cell_far (p := ⟨gb162,_,none⟩) (Y1 ((Y2 hw161_1 GW162.out))) _).trans (((cell_far (p := ⟨gb162,_,none⟩) (Y1 ((Y2 hw161_1 GW162.out))) _).trans (hHeld.2.2.2.2.2.2.2.1)))))))))),((cell_far (p := ⟨gb162,_,none⟩) (Y1 ((Y2 hw161_2 GW162.out))) _).trans (((cell_far (p := ⟨gb162,_,none⟩) (Y1 ((Y2 hw161_2 GW162.out))) _).trans (((cell_far (p := ⟨gb162,_,none⟩) (Y1 ((Y2 hw161_2 GW162.out))) _).trans (((cell_far (p := ⟨gb162,_,none⟩) (Y1 ((Y2 hw161_2 GW162.out))) _).trans (((cell_far (p := ⟨gb162,_,none⟩) (Y1 ((Y2 hw161_2 GW162.out))) _).trans (hHeld.2.2.2.2.2.2.2.2.1)))))))))),((cell_far (p := ⟨gb162,_,none⟩) (Y1 ((Y2 hw161_3 GW162.out))) _).trans (((cell_far (p := ⟨gb162,_,none⟩) (Y1 ((Y2 hw161_3 GW162.out))) _).trans (((cell_far (p := ⟨gb162,_,none⟩) (Y1 ((Y2 hw161_3 GW162.out))) _).trans (((cell_far (p := ⟨gb162,_,none⟩) (Y1 ((Y2 hw161_3 GW162.out))) _).trans (((cell_far (p := ⟨gb162,_,none⟩) (Y1 ((Y2 hw161_3 GW162.out))) _).trans (hHeld.2.2.2.2.2.2.2.2.2.1)))))))))),((cell_far (p := ⟨gb162,_,none⟩) (Y1 ((Y2 hw161_4 GW162.out))) _).trans (((cell_far (p := ⟨gb162,_,none⟩) (Y1 ((Y2 hw161_4 GW162.out))) _).trans (((cell_far (p := ⟨gb162,_,none⟩) (Y1 ((Y2 hw161_4 GW162.out))) _).trans (((cell_far (p := ⟨gb162,_,none⟩) (Y1 ((Y2 hw161_4 GW162.out))) _).trans (((cell_far (p := ⟨gb162,_,none⟩) (Y1 ((Y2 hw161_4 GW162.out))) _).trans (hHeld.2.2.2.2.2.2.2.2.2.2))))))))))⟩ (fun hHeld => ?_)
 clear hK K
 refine one_ (i := 11) (N := none) #[YT,YT,YT,YT,YT,YT,YT,YT,YT,YT,YT,YT] rfl rfl (one_of HT_.out (by kernel_rfl)) (by decide) (fun K hK => ?_)
 have hs21 : w15.cell? ⟨gb163,0,none⟩ = some (.string (⟨#[]⟩ : ByteArray)) := (blk_cell BK163.out 0).trans rfl
 have hfs21 := blk_frozen BK163.out 0
 have hns21_0 := NB159_163.out
 have hns21_1 := NB162_163.out
 have hms21_0 := NB163_159.out
 have hms21_1 := NB163_162.out
 have hs22 : w15.cell? ⟨gb163,1,none⟩ = some (.int .i64 0) := (blk_cell BK163.out 1).trans rfl
 have hfs22 := blk_frozen BK163.out 1
 have hns22_0 := NB159_163.out
 have hns22_1 := NB162_163.out
 have hms22_0 := NB163_159.out
 have hms22_1 := NB163_162.out
 have hs23 : w15.cell? ⟨gb163,2,none⟩ = some (.int .i64 0) := (blk_cell BK163.out 2).trans rfl
 have hfs23 := blk_frozen BK163.out 2
 have hns23_0 := NB159_163.out
 have hns23_1 := NB162_163.out
 have hms23_0 := NB163_159.out
 have hms23_1 := NB163_162.out
 have hs24 : w15.cell? ⟨gb163,3,none⟩ = some (.int .i64 0) := (blk_cell BK163.out 3).trans rfl
 have hfs24 := blk_frozen BK163.out 3
 have hns24_0 := NB159_163.out
 have hns24_1 := NB162_163.out
 have hms24_0 := NB163_159.out
 have hms24_1 := NB163_162.out
 have hs25 : w15.cell? ⟨gb163,4,none⟩ = some (.int .i64 0) := (blk_cell BK163.out 4).trans rfl
 have hfs25 := blk_frozen BK163.out 4
 have hns25_0 := NB159_163.out
 have hns25_1 := NB162_163.out
 have hms25_0 := NB163_159.out
 have hms25_1 := NB163_162.out
 refine skip_ (w1 := ?_) (by rfl) rfl ?_ ?_
 rotate_left
 ·go_simp
  rfl
 refine hK.out _ _ ⟨((cell_far (p := ⟨gb163,_,none⟩) NB159_163.out _).trans (((cell_far (p := ⟨gb163,_,none⟩) NB159_163.out _).trans (((cell_far (p := ⟨gb163,_,none⟩) NB159_163.out _).trans (((cell_far (p := ⟨gb163,_,none⟩) NB159_163.out _).trans (((cell_far (p := ⟨gb163,_,none⟩) NB159_163.out _).trans (hHeld.1)))))))))),((cell_far (p := ⟨gb163,_,none⟩) (Y1 ((Y2 hw160_0 GW163.out))) _).trans (((cell_far (p := ⟨gb163,_,none⟩) (Y1 ((Y2 hw160_0 GW163.out))) _).trans (((cell_far (p := ⟨gb163,_,none⟩) (Y1 ((Y2 hw160_0 GW163.out))) _).trans (((cell_far (p := ⟨gb163,_,none⟩) (Y1 ((Y2 hw160_0 GW163.out))) _).trans (((cell_far (p := ⟨gb163,_,none⟩) (Y1 ((Y2 hw160_0 GW163.out))) _).trans (hHeld.2.1)))))))))),((cell_far (p := ⟨gb163,_,none⟩) (Y1 ((Y2 hw160_1 GW163.out))) _).trans (((cell_far (p := ⟨gb163,_,none⟩) (Y1 ((Y2 hw160_1 GW163.out))) _).trans (((cell_far (p := ⟨gb163,_,none⟩) (Y1 ((Y2 hw160_1 GW163.out))) _).trans (((cell_far (p := ⟨gb163,_,none⟩) (Y1 ((Y2 hw160_1 GW163.out))) _).trans (((cell_far (p := ⟨gb163,_,none⟩) (Y1 ((Y2 hw160_1 GW163.out))) _).trans (hHeld.2.2.1)))))))))),((cell_far (p := ⟨gb163,_,none⟩) (Y1 ((Y2 hw160_2 GW163.out))) _).trans (((cell_far (p := ⟨gb163,_,none⟩) (Y1 ((Y2 hw160_2 GW163.out))) _).trans (((cell_far (p := ⟨gb163,_,none⟩) (Y1 ((Y2 hw160_2 GW163.out))) _).trans (((cell_far (p := ⟨gb163,_,none⟩) (Y1 ((Y2 hw160_2 GW163.out))) _).trans (((cell_far (p := ⟨gb163,_,none⟩) (Y1 ((Y2 hw160_2 GW163.out))) _).trans (hHeld.2.2.2.1)))))))))),((cell_far (p := ⟨gb163,_,none⟩) (Y1 ((Y2 hw160_3 GW163.out))) _).trans (((cell_far (p := ⟨gb163,_,none⟩) (Y1 ((Y2 hw160_3 GW163.out))) _).trans (((cell_far (p := ⟨gb163,_,none⟩) (Y1 ((Y2 hw160_3 GW163.out))) _).trans (((cell_far (p := ⟨gb163,_,none⟩) (Y1 ((Y2 hw160_3 GW163.out))) _).trans (((cell_far (p := ⟨gb163,_,none⟩) (Y1 ((Y2 hw160_3 GW163.out))) _).trans (hHeld.2.2.2.2.1)))))))))),((cell_far (p := ⟨gb163,_,none⟩) (Y1 ((Y2 hw160_4 GW163.out))) _).trans (((cell_far (p := ⟨gb163,_,none⟩) (Y1 ((Y2 hw160_4 GW163.out))) _).trans (((cell_far (p := ⟨gb163,_,none⟩) (Y1 ((Y2 hw160_4 GW163.out))) _).trans (((cell_far (p := ⟨gb163,_,none⟩) (Y1 ((Y2 hw160_4 GW163.out))) _).trans (((cell_far (p := ⟨gb163,_,none⟩) (Y1 ((Y2 hw160_4 GW163.out))) _).trans (hHeld.2.2.2.2.2.1)))))))))),((cell_far (p := ⟨gb163,_,none⟩) (Y1 ((Y2 hw161_0 GW163.out))) _).trans (((cell_far (p := ⟨gb163,_,none⟩) (Y1 ((Y2 hw161_0 GW163.out))) _).trans (((cell_far (p := ⟨gb163,_,none⟩) (Y1 ((Y2 hw161_0 GW163.out))) _).trans (((cell_far (p := ⟨gb163,_,none⟩) (Y1 ((Y2 hw161_0 GW163.out))) _).trans (((cell_far (p := ⟨gb163,_,none⟩) (Y1 ((Y2 hw161_0 GW163.out))) _).trans (hHeld.2.2.2.2.2.2.1)))))))))),((cell_far (p := ⟨gb163,_,none⟩) (Y1 ((Y2 hw161_1 GW163.out))) _).trans (((cell_far (p := ⟨gb163,_,none⟩) (Y1 ((Y2 hw161_1 GW163.out))) _).trans (((cell_far (p := ⟨gb163,_,none⟩) (Y1 ((Y2 hw161_1 GW163.out))) _).trans (((cell_far (p := ⟨gb163,_,none⟩) (Y1 ((Y2 hw161_1 GW163.out))) _).trans (((cell_far (p := ⟨gb163,_,none⟩) (Y1 ((Y2 hw161_1 GW163.out))) _).trans (hHeld.2.2.2.2.2.2.2.1)))))))))),((cell_far (p := ⟨gb163,_,none⟩) (Y1 ((Y2 hw161_2 GW163.out))) _).trans (((cell_far (p := ⟨gb163,_,none⟩) (Y1 ((Y2 hw161_2 GW163.out))) _).trans (((cell_far (p := ⟨gb163,_,none⟩) (Y1 ((Y2 hw161_2 GW163.out))) _).trans (((cell_far (p := ⟨gb163,_,none⟩) (Y1 ((Y2 hw161_2 GW163.out))) _).trans (((cell_far (p := ⟨gb163,_,none⟩) (Y1 ((Y2 hw161_2 GW163.out))) _).trans (hHeld.2.2.2.2.2.2.2.2.1)))))))))),((cell_far (p := ⟨gb163,_,none⟩) (Y1 ((Y2 hw161_3 GW163.out))) _).trans (((cell_far (p := ⟨gb163,_,none⟩) (Y1 ((Y2 hw161_3 GW163.out))) _).trans (((cell_far (p := ⟨gb163,_,none⟩) (Y1 ((Y2 hw161_3 GW163.out))) _).trans (((cell_far (p := ⟨gb163,_,none⟩) (Y1 ((Y2 hw161_3 GW163.out))) _).trans (((cell_far (p := ⟨gb163,_,none⟩) (Y1 ((Y2 hw161_3 GW163.out))) _).trans (hHeld.2.2.2.2.2.2.2.2.2.1)))))))))),((cell_far (p := ⟨gb163,_,none⟩) (Y1 ((Y2 hw161_4 GW163.out))) _).trans (((cell_far (p := ⟨gb163,_,none⟩) (Y1 ((Y2 hw161_4 GW163.out))) _).trans (((cell_far (p := ⟨gb163,_,none⟩) (Y1 ((Y2 hw161_4 GW163.out))) _).trans (((cell_far (p := ⟨gb163,_,none⟩) (Y1 ((Y2 hw161_4 GW163.out))) _).trans (((cell_far (p := ⟨gb163,_,none⟩) (Y1 ((Y2 hw161_4 GW163.out))) _).trans (hHeld.2.2.2.2.2.2.2.2.2.2))))))))))⟩ (fun hHeld => ?_)
 clear hK K
 refine done_ (done_of HT_.out (by kernel_rfl)) ?_
 try go_wp2
 have n0_ : Aside0 (((((((((((w15.setCell ⟨gb162,0,none⟩ (.string ((rd_T43 l2_0 a0).f0))).setCell ⟨gb162,1,none⟩ (.int .i64 ((rd_T43 l2_0 a0).f1))).setCell ⟨gb162,2,none⟩ (.int .i64 ((rd_T43 l2_0 a0).f2))).setCell ⟨gb162,3,none⟩ (.int .i64 ((rd_T43 l2_0 a0).f3))).setCell ⟨gb162,4,none⟩ (.int .i64 ((rd_T43 l2_0 a0).f4))).setCell ⟨gb163,0,none⟩ (.string ((rd_T43 l2_0 a1).f0))).setCell ⟨gb163,1,none⟩ (.int .i64 ((rd_T43 l2_0 a1).f1))).setCell ⟨gb163,2,none⟩ (.int .i64 ((rd_T43 l2_0 a1).f2))).setCell ⟨gb163,3,none⟩ (.int .i64 ((rd_T43 l2_0 a1).f3))).setCell ⟨gb163,4,none⟩ (.int .i64 ((rd_T43 l2_0 a1).f4))).heap[B2_0_]? = some (.cells #[.slice (some ad160) l2_0.length c2_0] 22 (0,0))) := ⟨by (with_reducible repeat (first | refine blk_drewN ?_ _ | refine blk_drew ?_ | refine blk_alloc ?_ _));refine blk_far ?_ NB159_163.out _;(with_reducible repeat (first | refine blk_drewN ?_ _ | refine blk_drew ?_ | refine blk_alloc ?_ _));refine blk_far ?_ NB159_163.out _;(with_reducible repeat (first | refine blk_drewN ?_ _ | refine blk_drew ?_ | refine blk_alloc ?_ _));refine blk_far ?_ NB159_163.out _;(with_reducible repeat (first | refine blk_drewN ?_ _ | refine blk_drew ?_ | refine blk_alloc ?_ _));refine blk_far ?_ NB159_163.out _;(with_reducible repeat (first | refine blk_drewN ?_ _ | refine blk_drew ?_ | refine blk_alloc ?_ _));refine blk_far ?_ NB159_163.out _;(with_reducible repeat (first | refine blk_drewN ?_ _ | refine blk_drew ?_ | refine blk_alloc ?_ _));refine blk_far ?_ NB159_162.out _;(with_reducible repeat (first | refine blk_drewN ?_ _ | refine blk_drew ?_ | refine blk_alloc ?_ _));refine blk_far ?_ NB159_162.out _;(with_reducible repeat (first | refine blk_drewN ?_ _ | refine blk_drew ?_ | refine blk_alloc ?_ _));refine blk_far ?_ NB159_162.out _;(with_reducible repeat (first | refine blk_drewN ?_ _ | refine blk_drew ?_ | refine blk_alloc ?_ _));refine blk_far ?_ NB159_162.out _;(with_reducible repeat (first | refine blk_drewN ?_ _ | refine blk_drew ?_ | refine blk_alloc ?_ _));refine blk_far ?_ NB159_162.out _;(with_reducible repeat (first | refine blk_drewN ?_ _ | refine blk_drew ?_ | refine blk_alloc ?_ _));exact BK159.out⟩
 have n1_ : Aside0 (((((((((((w15.setCell ⟨gb162,0,none⟩ (.string ((rd_T43 l2_0 a0).f0))).setCell ⟨gb162,1,none⟩ (.int .i64 ((rd_T43 l2_0 a0).f1))).setCell ⟨gb162,2,none⟩ (.int .i64 ((rd_T43 l2_0 a0).f2))).setCell ⟨gb162,3,none⟩ (.int .i64 ((rd_T43 l2_0 a0).f3))).setCell ⟨gb162,4,none⟩ (.int .i64 ((rd_T43 l2_0 a0).f4))).setCell ⟨gb163,0,none⟩ (.string ((rd_T43 l2_0 a1).f0))).setCell ⟨gb163,1,none⟩ (.int .i64 ((rd_T43 l2_0 a1).f1))).setCell ⟨gb163,2,none⟩ (.int .i64 ((rd_T43 l2_0 a1).f2))).setCell ⟨gb163,3,none⟩ (.int .i64 ((rd_T43 l2_0 a1).f3))).setCell ⟨gb163,4,none⟩ (.int .i64 ((rd_T43 l2_0 a1).f4))).heap[gb162]? = some (.cells #[.string ((rd_T43 l2_0 a0).f0),.int .i64 ((rd_T43 l2_0 a0).f1),.int .i64 ((rd_T43 l2_0 a0).f2),.int .i64 ((rd_T43 l2_0 a0).f3),.int .i64 ((rd_T43 l2_0 a0).f4)] 43 (0,0))) := ⟨by (with_reducible repeat (first | refine blk_drewN ?_ _ | refine blk_drew ?_ | refine blk_alloc ?_ _));refine blk_far ?_ NB162_163.out _;(with_reducible repeat (first | refine blk_drewN ?_ _ | refine blk_drew ?_ | refine blk_alloc ?_ _));refine blk_far ?_ NB162_163.out _;(with_reducible repeat (first | refine blk_drewN ?_ _ | refine blk_drew ?_ | refine blk_alloc ?_ _));refine blk_far ?_ NB162_163.out _;(with_reducible repeat (first | refine blk_drewN ?_ _ | refine blk_drew ?_ | refine blk_alloc ?_ _));refine blk_far ?_ NB162_163.out _;(with_reducible repeat (first | refine blk_drewN ?_ _ | refine blk_drew ?_ | refine blk_alloc ?_ _));refine blk_far ?_ NB162_163.out _;(with_reducible repeat (first | refine blk_drewN ?_ _ | refine blk_drew ?_ | refine blk_alloc ?_ _));refine blk_put (cs := #[.string ((rd_T43 l2_0 a0).f0),.int .i64 ((rd_T43 l2_0 a0).f1),.int .i64 ((rd_T43 l2_0 a0).f2),.int .i64 ((rd_T43 l2_0 a0).f3),.int .i64 0]) ?_ 4 _ rfl;(with_reducible repeat (first | refine blk_drewN ?_ _ | refine blk_drew ?_ | refine blk_alloc ?_ _));refine blk_put (cs := #[.string ((rd_T43 l2_0 a0).f0),.int .i64 ((rd_T43 l2_0 a0).f1),.int .i64 ((rd_T43 l2_0 a0).f2),.int .i64 0,.int .i64 0]) ?_ 3 _ rfl;(with_reducible repeat (first | refine blk_drewN ?_ _ | refine blk_drew ?_ | refine blk_alloc ?_ _));refine blk_put (cs := #[.string ((rd_T43 l2_0 a0).f0),.int .i64 ((rd_T43 l2_0 a0).f1),.int .i64 0,.int .i64 0,.int .i64 0]) ?_ 2 _ rfl;(with_reducible repeat (first | refine blk_drewN ?_ _ | refine blk_drew ?_ | refine blk_alloc ?_ _));refine blk_put (cs := #[.string ((rd_T43 l2_0 a0).f0),.int .i64 0,.int .i64 0,.int .i64 0,.int .i64 0]) ?_ 1 _ rfl;(with_reducible repeat (first | refine blk_drewN ?_ _ | refine blk_drew ?_ | refine blk_alloc ?_ _));refine blk_put (cs := #[.string (⟨#[]⟩ : ByteArray),.int .i64 0,.int .i64 0,.int .i64 0,.int .i64 0]) ?_ 0 _ rfl;(with_reducible repeat (first | refine blk_drewN ?_ _ | refine blk_drew ?_ | refine blk_alloc ?_ _));exact BK162.out⟩
 have n2_ : Aside0 (((((((((((w15.setCell ⟨gb162,0,none⟩ (.string ((rd_T43 l2_0 a0).f0))).setCell ⟨gb162,1,none⟩ (.int .i64 ((rd_T43 l2_0 a0).f1))).setCell ⟨gb162,2,none⟩ (.int .i64 ((rd_T43 l2_0 a0).f2))).setCell ⟨gb162,3,none⟩ (.int .i64 ((rd_T43 l2_0 a0).f3))).setCell ⟨gb162,4,none⟩ (.int .i64 ((rd_T43 l2_0 a0).f4))).setCell ⟨gb163,0,none⟩ (.string ((rd_T43 l2_0 a1).f0))).setCell ⟨gb163,1,none⟩ (.int .i64 ((rd_T43 l2_0 a1).f1))).setCell ⟨gb163,2,none⟩ (.int .i64 ((rd_T43 l2_0 a1).f2))).setCell ⟨gb163,3,none⟩ (.int .i64 ((rd_T43 l2_0 a1).f3))).setCell ⟨gb163,4,none⟩ (.int .i64 ((rd_T43 l2_0 a1).f4))).heap[gb163]? = some (.cells #[.string ((rd_T43 l2_0 a1).f0),.int .i64 ((rd_T43 l2_0 a1).f1),.int .i64 ((rd_T43 l2_0 a1).f2),.int .i64 ((rd_T43 l2_0 a1).f3),.int .i64 ((rd_T43 l2_0 a1).f4)] 43 (0,0))) := ⟨by (with_reducible repeat (first | refine blk_drewN ?_ _ | refine blk_drew ?_ | refine blk_alloc ?_ _));refine blk_put (cs := #[.string ((rd_T43 l2_0 a1).f0),.int .i64 ((rd_T43 l2_0 a1).f1),.int .i64 ((rd_T43 l2_0 a1).f2),.int .i64 ((rd_T43 l2_0 a1).f3),.int .i64 0]) ?_ 4 _ rfl;(with_reducible repeat (first | refine blk_drewN ?_ _ | refine blk_drew ?_ | refine blk_alloc ?_ _));refine blk_put (cs := #[.string ((rd_T43 l2_0 a1).f0),.int .i64 ((rd_T43 l2_0 a1).f1),.int .i64 ((rd_T43 l2_0 a1).f2),.int .i64 0,.int .i64 0]) ?_ 3 _ rfl;(with_reducible repeat (first | refine blk_drewN ?_ _ | refine blk_drew ?_ | refine blk_alloc ?_ _));refine blk_put (cs := #[.string ((rd_T43 l2_0 a1).f0),.int .i64 ((rd_T43 l2_0 a1).f1),.int .i64 0,.int .i64 0,.int .i64 0]) ?_ 2 _ rfl;(with_reducible repeat (first | refine blk_drewN ?_ _ | refine blk_drew ?_ | refine blk_alloc ?_ _));refine blk_put (cs := #[.string ((rd_T43 l2_0 a1).f0),.int .i64 0,.int .i64 0,.int .i64 0,.int .i64 0]) ?_ 1 _ rfl;(with_reducible repeat (first | refine blk_drewN ?_ _ | refine blk_drew ?_ | refine blk_alloc ?_ _));refine blk_put (cs := #[.string (⟨#[]⟩ : ByteArray),.int .i64 0,.int .i64 0,.int .i64 0,.int .i64 0]) ?_ 0 _ rfl;(with_reducible repeat (first | refine blk_drewN ?_ _ | refine blk_drew ?_ | refine blk_alloc ?_ _));refine blk_far ?_ NB163_162.out _;(with_reducible repeat (first | refine blk_drewN ?_ _ | refine blk_drew ?_ | refine blk_alloc ?_ _));refine blk_far ?_ NB163_162.out _;(with_reducible repeat (first | refine blk_drewN ?_ _ | refine blk_drew ?_ | refine blk_alloc ?_ _));refine blk_far ?_ NB163_162.out _;(with_reducible repeat (first | refine blk_drewN ?_ _ | refine blk_drew ?_ | refine blk_alloc ?_ _));refine blk_far ?_ NB163_162.out _;(with_reducible repeat (first | refine blk_drewN ?_ _ | refine blk_drew ?_ | refine blk_alloc ?_ _));refine blk_far ?_ NB163_162.out _;(with_reducible repeat (first | refine blk_drewN ?_ _ | refine blk_drew ?_ | refine blk_alloc ?_ _));exact BK163.out⟩
 have n3_ : Aside0 (Below w.heap.size w ((((((((((w15.setCell ⟨gb162,0,none⟩ (.string ((rd_T43 l2_0 a0).f0))).setCell ⟨gb162,1,none⟩ (.int .i64 ((rd_T43 l2_0 a0).f1))).setCell ⟨gb162,2,none⟩ (.int .i64 ((rd_T43 l2_0 a0).f2))).setCell ⟨gb162,3,none⟩ (.int .i64 ((rd_T43 l2_0 a0).f3))).setCell ⟨gb162,4,none⟩ (.int .i64 ((rd_T43 l2_0 a0).f4))).setCell ⟨gb163,0,none⟩ (.string ((rd_T43 l2_0 a1).f0))).setCell ⟨gb163,1,none⟩ (.int .i64 ((rd_T43 l2_0 a1).f1))).setCell ⟨gb163,2,none⟩ (.int .i64 ((rd_T43 l2_0 a1).f2))).setCell ⟨gb163,3,none⟩ (.int .i64 ((rd_T43 l2_0 a1).f3))).setCell ⟨gb163,4,none⟩ (.int .i64 ((rd_T43 l2_0 a1).f4)))) := ⟨by repeat (first | (with_reducible first | exact HB.out | apply below_alloc | apply pw_below_drewN | apply below_drew1 | refine below_set ?_ GE159.out | refine below_set ?_ GE162.out | refine below_set ?_ GE163.out) | exact HB.out)⟩
 (try clear BK159)
 (try clear BK162)
 (try clear BK163)
 (try clear HB)
 generalize ((((((((((w15.setCell ⟨gb162,0,none⟩ (.string ((rd_T43 l2_0 a0).f0))).setCell ⟨gb162,1,none⟩ (.int .i64 ((rd_T43 l2_0 a0).f1))).setCell ⟨gb162,2,none⟩ (.int .i64 ((rd_T43 l2_0 a0).f2))).setCell ⟨gb162,3,none⟩ (.int .i64 ((rd_T43 l2_0 a0).f3))).setCell ⟨gb162,4,none⟩ (.int .i64 ((rd_T43 l2_0 a0).f4))).setCell ⟨gb163,0,none⟩ (.string ((rd_T43 l2_0 a1).f0))).setCell ⟨gb163,1,none⟩ (.int .i64 ((rd_T43 l2_0 a1).f1))).setCell ⟨gb163,2,none⟩ (.int .i64 ((rd_T43 l2_0 a1).f2))).setCell ⟨gb163,3,none⟩ (.int .i64 ((rd_T43 l2_0 a1).f3))).setCell ⟨gb163,4,none⟩ (.int .i64 ((rd_T43 l2_0 a1).f4))) = w26 at n0_ n1_ n2_ n3_ ⊢
 have BK159 := n0_
 have BK162 := n1_
 have BK163 := n2_
 have HB := n3_
 clear n0_ n1_ n2_ n3_
 have n0_ := Yd (blk_drew BK159.out)
 have n1_ := Yd (blk_drew BK162.out)
 have n2_ := Yd (blk_drew BK163.out)
 have n3_ := Yd (below_drew1 HB.out)
 clear BK159
 clear BK162
 clear BK163
 clear HB
 have BK159 := n0_
 have BK162 := n1_
 have BK163 := n2_
 have HB := n3_
 clear n0_ n1_ n2_ n3_
 refine start_ (n := 18) (S := fun w' => w'.cell? ⟨gb163,0,none⟩ = some (.string ((rd_T43 l2_0 a1).f0)) ∧ w'.cell? ⟨gb163,1,none⟩ = some (.int .i64 ((rd_T43 l2_0 a1).f1)) ∧ w'.cell? ⟨gb163,2,none⟩ = some (.int .i64 ((rd_T43 l2_0 a1).f2)) ∧ w'.cell? ⟨gb163,3,none⟩ = some (.int .i64 ((rd_T43 l2_0 a1).f3)) ∧ w'.cell? ⟨gb163,4,none⟩ = some (.int .i64 ((rd_T43 l2_0 a1).f4)) ∧ w'.cell? ⟨gb162,0,none⟩ = some (.string ((rd_T43 l2_0 a0).f0)) ∧ w'.cell? ⟨gb162,1,none⟩ = some (.int .i64 ((rd_T43 l2_0 a0).f1)) ∧ w'.cell? ⟨gb162,2,none⟩ = some (.int .i64 ((rd_T43 l2_0 a0).f2)) ∧ w'.cell? ⟨gb162,3,none⟩ = some (.int .i64 ((rd_T43 l2_0 a0).f3)) ∧ w'.cell? ⟨gb162,4,none⟩ = some (.int .i64 ((rd_T43 l2_0 a0).f4))) (ds := []) #[YF,YF,YF,YF,YF,YF,YF,YF,YF,YF,YF,YF,YF,YF,YF,YF,YF,YF] (by kernel_rfl) rfl rfl ⟨(blk_cell BK163.out 0).trans rfl,(blk_cell BK163.out 1).trans rfl,(blk_cell BK163.out 2).trans rfl,(blk_cell BK163.out 3).trans rfl,(blk_cell BK163.out 4).trans rfl,(blk_cell BK162.out 0).trans rfl,(blk_cell BK162.out 1).trans rfl,(blk_cell BK162.out 2).trans rfl,(blk_cell BK162.out 3).trans rfl,(blk_cell BK162.out 4).trans rfl⟩ (fun hHeld => ?_);refine with_tabW demand_order_1_.tab2 demand_order_1_.bits2 (fun HT_ HW_ => ?_)
 generalize w26.drew = w27 at BK159 BK162 BK163 HB hHeld ⊢
 refine pure_ (i := 0) (N := some 16) (v := ?_) (a' := ?_) #[YT,YF,YF,YF,YF,YF,YF,YF,YF,YF,YF,YF,YF,YF,YF,YF,YF,YF] rfl rfl (any_of HT_.out (by kernel_rfl)) (fun _ _ _ h => h) (Or.inl ⟨by rfl,?_⟩) ?_ ?_
 rotate_left
 ·intro w'
  go_simp
  with_reducible rfl
 rotate_left
 ·simp only [Act.put,Ya,Yb,Yc,i64_w,i32_w]
  rfl
 refine pure_ (i := 2) (N := some 18) (v := ?_) (a' := ?_) #[YT,YF,YT,YF,YF,YF,YF,YF,YF,YF,YF,YF,YF,YF,YF,YF,YF,YF] rfl rfl (any_of HT_.out (by kernel_rfl)) (fun _ _ _ h => h) (Or.inl ⟨by rfl,?_⟩) ?_ ?_
 rotate_left
 ·intro w'
  go_simp
  with_reducible rfl
 rotate_left
 ·simp only [Act.put,Ya,Yb,Yc,i64_w,i32_w]
  rfl
 refine pure_ (i := 5) (N := some 21) (v := ?_) (a' := ?_) #[YT,YF,YT,YF,YF,YT,YF,YF,YF,YF,YF,YF,YF,YF,YF,YF,YF,YF] rfl rfl (any_of HT_.out (by kernel_rfl)) (fun _ _ _ h => h) (Or.inl ⟨by rfl,?_⟩) ?_ ?_
 rotate_left
 ·intro w'
  go_simp
  with_reducible rfl
 rotate_left
 ·simp only [Act.put,Ya,Yb,Yc,i64_w,i32_w]
  rfl
 refine pure_ (i := 7) (N := some 23) (v := ?_) (a' := ?_) #[YT,YF,YT,YF,YF,YT,YF,YT,YF,YF,YF,YF,YF,YF,YF,YF,YF,YF] rfl rfl (any_of HT_.out (by kernel_rfl)) (fun _ _ _ h => h) (Or.inl ⟨by rfl,?_⟩) ?_ ?_
 rotate_left
 ·intro w'
  go_simp
  with_reducible rfl
 rotate_left
 ·simp only [Act.put,Ya,Yb,Yc,i64_w,i32_w]
  rfl
 refine pure_ (i := 10) (N := some 26) (v := ?_) (a' := ?_) #[YT,YF,YT,YF,YF,YT,YF,YT,YF,YF,YT,YF,YF,YF,YF,YF,YF,YF] rfl rfl (any_of HT_.out (by kernel_rfl)) (fun _ _ _ h => h) (Or.inl ⟨by rfl,?_⟩) ?_ ?_
 rotate_left
 ·intro w'
  go_simp
  with_reducible rfl
 rotate_left
 ·simp only [Act.put,Ya,Yb,Yc,i64_w,i32_w]
  rfl
 refine pure_ (i := 12) (N := some 28) (v := ?_) (a' := ?_) #[YT,YF,YT,YF,YF,YT,YF,YT,YF,YF,YT,YF,YT,YF,YF,YF,YF,YF] rfl rfl (any_of HT_.out (by kernel_rfl)) (fun _ _ _ h => h) (Or.inl ⟨by rfl,?_⟩) ?_ ?_
 rotate_left
 ·intro w'
  go_simp
  with_reducible rfl
 rotate_left
 ·simp only [Act.put,Ya,Yb,Yc,i64_w,i32_w]
  rfl
 refine take_ (i := 1) (N := some 17) (v := ?_) (a' := ?_) #[YT,YT,YT,YF,YF,YT,YF,YT,YF,YF,YT,YF,YT,YF,YF,YF,YF,YF] rfl rfl (take_ofW HT_.out HW_.out (by kernel_rfl)) (fun _ _ _ h => h) (Or.inl ⟨by rfl,?_⟩) hHeld ?_ ?_
 rotate_left
 ·rintro w' ⟨s0,s1,s2,s3,s4,s5,s6,s7,s8,s9⟩
  go_simp
  with_reducible rfl
 rotate_left
 ·simp only [Act.put,Ya,Yb,Yc,i64_w,i32_w]
  rfl
 refine take_ (i := 3) (N := some 19) (v := ?_) (a' := ?_) #[YT,YT,YT,YT,YF,YT,YF,YT,YF,YF,YT,YF,YT,YF,YF,YF,YF,YF] rfl rfl (take_ofW HT_.out HW_.out (by kernel_rfl)) (fun _ _ _ h => h) (Or.inl ⟨by rfl,?_⟩) hHeld ?_ ?_
 rotate_left
 ·rintro w' ⟨s0,s1,s2,s3,s4,s5,s6,s7,s8,s9⟩
  go_simp
  with_reducible rfl
 rotate_left
 ·simp only [Act.put,Ya,Yb,Yc,i64_w,i32_w]
  rfl
 refine take_ (i := 6) (N := some 22) (v := ?_) (a' := ?_) #[YT,YT,YT,YT,YF,YT,YT,YT,YF,YF,YT,YF,YT,YF,YF,YF,YF,YF] rfl rfl (take_ofW HT_.out HW_.out (by kernel_rfl)) (fun _ _ _ h => h) (Or.inl ⟨by rfl,?_⟩) hHeld ?_ ?_
 rotate_left
 ·rintro w' ⟨s0,s1,s2,s3,s4,s5,s6,s7,s8,s9⟩
  go_simp
  with_reducible rfl
 rotate_left
 ·simp only [Act.put,Ya,Yb,Yc,i64_w,i32_w]
  rfl
 refine take_ (i := 8) (N := some 24) (v := ?_) (a' := ?_) #[YT,YT,YT,YT,YF,YT,YT,YT,YT,YF,YT,YF,YT,YF,YF,YF,YF,YF] rfl rfl (take_ofW HT_.out HW_.out (by kernel_rfl)) (fun _ _ _ h => h) (Or.inl ⟨by rfl,?_⟩) hHeld ?_ ?_
 rotate_left
 ·rintro w' ⟨s0,s1,s2,s3,s4,s5,s6,s7,s8,s9⟩
  go_simp
  with_reducible rfl
 rotate_left
 ·simp only [Act.put,Ya,Yb,Yc,i64_w,i32_w]
  rfl
 refine take_ (i := 11) (N := some 27) (v := ?_) (a' := ?_) #[YT,YT,YT,YT,YF,YT,YT,YT,YT,YF,YT,YT,YT,YF,YF,YF,YF,YF] rfl rfl (take_ofW HT_.out HW_.out (by kernel_rfl)) (fun _ _ _ h => h) (Or.inl ⟨by rfl,?_⟩) hHeld ?_ ?_
 rotate_left
 ·rintro w' ⟨s0,s1,s2,s3,s4,s5,s6,s7,s8,s9⟩
  go_simp
  with_reducible rfl
 rotate_left
 ·simp only [Act.put,Ya,Yb,Yc,i64_w,i32_w]
  rfl
 refine take_ (i := 13) (N := some 29) (v := ?_) (a' := ?_) #[YT,YT,YT,YT,YF,YT,YT,YT,YT,YF,YT,YT,YT,YT,YF,YF,YF,YF] rfl rfl (take_ofW HT_.out HW_.out (by kernel_rfl)) (fun _ _ _ h => h) (Or.inl ⟨by rfl,?_⟩) hHeld ?_ ?_
 rotate_left
 ·rintro w' ⟨s0,s1,s2,s3,s4,s5,s6,s7,s8,s9⟩
  go_simp
  with_reducible rfl
 rotate_left
 ·simp only [Act.put,Ya,Yb,Yc,i64_w,i32_w]
  rfl
 refine one_ (i := 4) (N := some 20) #[YT,YT,YT,YT,YT,YT,YT,YT,YT,YF,YT,YT,YT,YT,YF,YF,YF,YF] rfl rfl (one_of HT_.out (by kernel_rfl)) (by decide) (fun K hK => ?_)
 refine goes_ Try.func42 (by kernel_rfl) rfl #[.int .i64 ((rd_T43 l2_0 a1).f1),.int .i64 ((rd_T43 l2_0 a0).f1)] (by rfl) rfl rfl Y8 ?_
 with_reducible refine (cmp_Compare_int.calls ((rd_T43 l2_0 a1).f1) ((rd_T43 l2_0 a0).f1) t164 _ A8.out).mono ?_
 rintro e w' ⟨rfl,⟨nd,rfl⟩⟩
 refine ⟨_,rfl,?_⟩
 refine hK.out _ _ ⟨(blk_cell BK163.out 0).trans rfl,(blk_cell BK163.out 1).trans rfl,(blk_cell BK163.out 2).trans rfl,(blk_cell BK163.out 3).trans rfl,(blk_cell BK163.out 4).trans rfl,(blk_cell BK162.out 0).trans rfl,(blk_cell BK162.out 1).trans rfl,(blk_cell BK162.out 2).trans rfl,(blk_cell BK162.out 3).trans rfl,(blk_cell BK162.out 4).trans rfl⟩ (fun hHeld => ?_)
 clear hK K
 refine norm_ (a' := ?_) ?_ ?_
 rotate_left
 ·show Act.put _ (some 20) _ = _
  simp only [Act.put,Ya,Yb,Yc,i64_w,i32_w]
  rfl
 refine one_ (i := 9) (N := some 25) #[YT,YT,YT,YT,YT,YT,YT,YT,YT,YT,YT,YT,YT,YT,YF,YF,YF,YF] rfl rfl (one_of HT_.out (by kernel_rfl)) (by decide) (fun K hK => ?_)
 refine goes_ Try.func43 (by kernel_rfl) rfl #[.int .i64 ((rd_T43 l2_0 a1).f2),.int .i64 ((rd_T43 l2_0 a0).f2)] (by rfl) rfl rfl Y8 ?_
 with_reducible refine (cmp_Compare_int64.calls ((rd_T43 l2_0 a1).f2) ((rd_T43 l2_0 a0).f2) t165 _ A9.out).mono ?_
 rintro e w' ⟨rfl,⟨nd,rfl⟩⟩
 refine ⟨_,rfl,?_⟩
 refine hK.out _ _ ⟨(blk_cell BK163.out 0).trans rfl,(blk_cell BK163.out 1).trans rfl,(blk_cell BK163.out 2).trans rfl,(blk_cell BK163.out 3).trans rfl,(blk_cell BK163.out 4).trans rfl,(blk_cell BK162.out 0).trans rfl,(blk_cell BK162.out 1).trans rfl,(blk_cell BK162.out 2).trans rfl,(blk_cell BK162.out 3).trans rfl,(blk_cell BK162.out 4).trans rfl⟩ (fun hHeld => ?_)
 clear hK K
 refine norm_ (a' := ?_) ?_ ?_
 rotate_left
 ·show Act.put _ (some 25) _ = _
  simp only [Act.put,Ya,Yb,Yc,i64_w,i32_w]
  rfl
 refine one_ (i := 14) (N := some 30) #[YT,YT,YT,YT,YT,YT,YT,YT,YT,YT,YT,YT,YT,YT,YT,YF,YF,YF] rfl rfl (one_of HT_.out (by kernel_rfl)) (by decide) (fun K hK => ?_)
 refine goes_ Try.func44 (by kernel_rfl) rfl #[.string ((rd_T43 l2_0 a0).f0),.string ((rd_T43 l2_0 a1).f0)] (by rfl) rfl rfl Y8 ?_
 with_reducible refine (strings_Compare.calls ((rd_T43 l2_0 a0).f0) ((rd_T43 l2_0 a1).f0) t166 _ A10.out).mono ?_
 rintro e w' ⟨rfl,⟨nd,rfl⟩⟩
 refine ⟨_,rfl,?_⟩
 refine hK.out _ _ ⟨(blk_cell BK163.out 0).trans rfl,(blk_cell BK163.out 1).trans rfl,(blk_cell BK163.out 2).trans rfl,(blk_cell BK163.out 3).trans rfl,(blk_cell BK163.out 4).trans rfl,(blk_cell BK162.out 0).trans rfl,(blk_cell BK162.out 1).trans rfl,(blk_cell BK162.out 2).trans rfl,(blk_cell BK162.out 3).trans rfl,(blk_cell BK162.out 4).trans rfl⟩ (fun hHeld => ?_)
 clear hK K
 refine norm_ (a' := ?_) ?_ ?_
 rotate_left
 ·show Act.put _ (some 30) _ = _
  simp only [Act.put,Ya,Yb,Yc,i64_w,i32_w]
  rfl
 refine one_ (i := 15) (N := some 31) #[YT,YT,YT,YT,YT,YT,YT,YT,YT,YT,YT,YT,YT,YT,YT,YT,YF,YF] rfl rfl (one_of HT_.out (by kernel_rfl)) (by decide) (fun K hK => ?_)
 refine Kd.R_lit_step (Kd.int .i64) _ 3 ?hg (N := 31) ?hd (xs := ([t164,t165,t166] : List Int)) (inner := [.int .i64 t164,.int .i64 t165,.int .i64 t166]) (ok := fun _ => True) (okp := fun _ => True) ?hr ?hp (fun _ hk => hk) trivial (Below.refl _ _) (Nat.le_refl _) (by simp) ?_;(case hd => rfl);(case hg => rfl);(case hr => first | (go_simp;done) | (go_simp;rfl));(case hp => exact (Reps.one (show Kd.M (Kd.int .i64) _ _ _ t164 [.int .i64 t164] from rfl) (Reps.one (show Kd.M (Kd.int .i64) _ _ _ t165 [.int .i64 t165] from rfl) (Reps.one (show Kd.M (Kd.int .i64) _ _ _ t166 [.int .i64 t166] from rfl) (Reps.none _ _)))))
 intro v168 w28 ho29 hb hg_ hnew_
 clear hg_ hnew_
 (first | rw [← Ny167.out] at ho29 | (simp only [Int.reduceToNat] at ho29;rw [← Ny167.out] at ho29))
 have n0_ := Yd (Kd.R_lower ho29 (below_size (by repeat (first | (with_reducible first | exact HB.out | apply below_alloc | apply pw_below_drewN | apply below_drew1 | refine below_set ?_ GE159.out | refine below_set ?_ GE162.out | refine below_set ?_ GE163.out) | exact HB.out))))
 have n1_ := Yd (blk_below (g := B2_0_) (o := .cells #[.slice (some ad160) l2_0.length c2_0] 22 (0,0)) (Y6 BK159.out) hb)
 have n2_ := Yd (blk_below (g := gb162) (o := .cells #[.string ((rd_T43 l2_0 a0).f0),.int .i64 ((rd_T43 l2_0 a0).f1),.int .i64 ((rd_T43 l2_0 a0).f2),.int .i64 ((rd_T43 l2_0 a0).f3),.int .i64 ((rd_T43 l2_0 a0).f4)] 43 (0,0)) (Y6 BK162.out) hb)
 have n3_ := Yd (blk_below (g := gb163) (o := .cells #[.string ((rd_T43 l2_0 a1).f0),.int .i64 ((rd_T43 l2_0 a1).f1),.int .i64 ((rd_T43 l2_0 a1).f2),.int .i64 ((rd_T43 l2_0 a1).f3),.int .i64 ((rd_T43 l2_0 a1).f4)] 43 (0,0)) (Y6 BK163.out) hb)
 have n4_ := Yd (below_step (by repeat (first | (with_reducible first | exact HB.out | apply below_alloc | apply pw_below_drewN | apply below_drew1 | refine below_set ?_ GE159.out | refine below_set ?_ GE162.out | refine below_set ?_ GE163.out) | exact HB.out)) hb)
 clear BK159
 clear BK162
 clear BK163
 clear HB
 have HO169 := n0_
 have BK159 := n1_
 have BK162 := n2_
 have BK163 := n3_
 have HB := n4_
 clear n0_ n1_ n2_ n3_ n4_
 clear hb ho29
 obtain ⟨Ao30,co30,eo30⟩ := Kd.R_slice HO169.out
 (first | subst eo30 | (injection eo30 with f1_ f2_ f3_;have f4_ := f1_.symm;have f5_ := f3_.symm;clear f1_ f2_ f3_;subst f4_;subst f5_))
 refine hK.out _ _ ⟨(blk_cell BK163.out 0).trans rfl,(blk_cell BK163.out 1).trans rfl,(blk_cell BK163.out 2).trans rfl,(blk_cell BK163.out 3).trans rfl,(blk_cell BK163.out 4).trans rfl,(blk_cell BK162.out 0).trans rfl,(blk_cell BK162.out 1).trans rfl,(blk_cell BK162.out 2).trans rfl,(blk_cell BK162.out 3).trans rfl,(blk_cell BK162.out 4).trans rfl⟩ (fun hHeld => ?_)
 clear hK K
 refine norm_ (a' := ?_) ?_ ?_
 rotate_left
 ·show Act.put _ (some 31) _ = _
  simp only [Act.put,Ya,Yb,Yc,i64_w,i32_w]
  rfl
 refine one_ (i := 16) (N := some 32) #[YT,YT,YT,YT,YT,YT,YT,YT,YT,YT,YT,YT,YT,YT,YT,YT,YT,YF] rfl rfl (one_of HT_.out (by kernel_rfl)) (by decide) (fun K hK => ?_)
 refine goes_ Try.func41 (by kernel_rfl) rfl #[.slice Ao30 y167.length co30] (by rfl) rfl rfl Y8 ?_
 with_reducible refine (cmp_Or_int.calls k _ _ y167 t170 _ ?side1 ?side2 A11.out).mono ?_
 (case side1 => repeat (first | exact (Kd.R_reads' HO169.out).2.2 | (with_reducible refine Kd.C_alloc ?_ _) | (with_reducible refine Kd.C_drewN ?_ _) | (with_reducible refine Kd.C_drew ?_)))
 (case side2 => exact (Kd.R_reads' HO169.out).2.1)
 rintro e w' ⟨rfl,⟨nd,rfl⟩⟩
 refine ⟨_,rfl,?_⟩
 refine hK.out _ _ ⟨(blk_cell BK163.out 0).trans rfl,(blk_cell BK163.out 1).trans rfl,(blk_cell BK163.out 2).trans rfl,(blk_cell BK163.out 3).trans rfl,(blk_cell BK163.out 4).trans rfl,(blk_cell BK162.out 0).trans rfl,(blk_cell BK162.out 1).trans rfl,(blk_cell BK162.out 2).trans rfl,(blk_cell BK162.out 3).trans rfl,(blk_cell BK162.out 4).trans rfl⟩ (fun hHeld => ?_)
 clear hK K
 refine norm_ (a' := ?_) ?_ ?_
 rotate_left
 ·show Act.put _ (some 32) _ = _
  simp only [Act.put,Ya,Yb,Yc,i64_w,i32_w]
  rfl
 refine pure_ (i := 17) (N := some 5) (v := ?_) (a' := ?_) #[YT,YT,YT,YT,YT,YT,YT,YT,YT,YT,YT,YT,YT,YT,YT,YT,YT,YT] rfl rfl (any_of HT_.out (by kernel_rfl)) (fun _ _ _ h => h) (Or.inl ⟨by rfl,?_⟩) ?_ ?_
 rotate_left
 ·intro w'
  go_simp
  with_reducible rfl
 rotate_left
 ·simp only [Act.put,Ya,Yb,Yc,i64_w,i32_w]
  rfl
 refine done_ (done_of HT_.out (by kernel_rfl)) ?_
 try go_wp2
 go_ret
 exact ⟨by first | rfl | (simp [errW_none,errW_some] <;> rfl) | (simp [*,errW_none,errW_some] <;> rfl),by repeat (first | (with_reducible first | exact HB.out | apply below_alloc | apply pw_below_drewN | apply below_drew1 | refine below_set ?_ GE159.out | refine below_set ?_ GE162.out | refine below_set ?_ GE163.out) | exact HB.out)⟩
end Go.Proofs.Ytcdjhdfjkfbgdaa.PD56.G
namespace Go.Proofs.Ytcdjhdfjkfbgdaa.PD56
open Go.RowKit Go.Proofs.YtcdjhdfjkfbgdaaW.PrintWords Go.Proofs.YtcdjhdfjkfbgdaaW.PrintLast Go.Proofs.YtcdjhdfjkfbgdaaW.PrintMore
theorem demand_order_1_.calls (k : Nat) (a0 : Int) (a1 : Int) (B2_0_ : Nat) (A2_0 : Option Addr) (c2_0 : Nat) (l2_0 : List (S43)) (r : Int) (w : World) (hr2_0 : Kd.C k43 w A2_0 l2_0.length l2_0) (hc2_0 : l2_0.length ≤ c2_0) (hx2_0_ : w.heap[B2_0_]? = some (.cells #[.slice A2_0 l2_0.length c2_0] 22 (0,0))) (h : demand_order_1_.f k a0 a1 l2_0 = some r) :
  Calls Try.prog 40 #[.int .i64 a0,.int .i64 a1,.pointer (some ⟨B2_0_,0,none⟩)] w fun e w' => e = .returned (.int .i64 r) ∧ Below w.heap.size w w' := by
 refine Calls.mono (G.demand_order_1_.calls k a0 a1 B2_0_ A2_0 c2_0 l2_0 r w hr2_0 hc2_0 hx2_0_ h) ?_
 rintro e w' ⟨he,hb⟩
 exact ⟨he,hb.toBelow⟩
end Go.Proofs.Ytcdjhdfjkfbgdaa.PD56
