/- THE LAW: see the last theorem; the walk through the program and the plain law, joined. Conditions: none. -/
import Derived.Test.YtcdjhdfjkfbgdaaZ4
import Derived.ProofKit
import Derived.Deep.Slices
import Derived.ChangeSame
import Derived.Test.YtcdjhdfjkfbgdaaRows
import Derived.OpenShut
import Derived.ShutString
import Derived.ChangeOld
set_option linter.unusedVariables false
set_option linter.unusedSimpArgs false
namespace Go.Proofs.Ytcdjhdfjkfbgdaa.PD56
open Go.RowKit Go.Proofs.YtcdjhdfjkfbgdaaW.PrintWords Go.Proofs.YtcdjhdfjkfbgdaaW.PrintLast Go.Proofs.YtcdjhdfjkfbgdaaW.PrintMore
attribute [local go_sem] max2_int min2_int max_two min_two max_three min_three max_four min_four
def plenumref56_Level.l0 : Nat → List (S43) → List (S59) → Int → Int → Int → Option (Int)
 | 0,_,_,_,_,_ => none
 | k + 1,x0,x1,x3,x9,x10 => if x10 < (x0.length : Int) then (if 0 ≤ x10 then (if x10 < (x1.length : Int) then (if ((rd_T59 x1 x10).f0 = true) then (plenumref56_Level.l0 k x0 x1 x3 x9 (wrap64 (x10 + 1))) else ((plenumref56_Free.f ((rd_T43 x0 x10).f0) ((rd_T43 x0 x10).f1) ((rd_T43 x0 x10).f2) ((rd_T43 x0 x10).f3) ((rd_T43 x0 x10).f4) ((rd_T59 x1 x10).f0) ((rd_T59 x1 x10).f1) x3).bind fun t391 => (if t391 = true then (plenumref56_Level.l0 k x0 x1 x3 x9 (wrap64 (x10 + 1))) else (plenumref56_Level.l0 k x0 x1 x3 (wrap64 (x9 + ((rd_T43 x0 x10).f2))) (wrap64 (x10 + 1)))))) else (none)) else (none)) else (some x9)
def plenumref56_Level.f (k : Nat) (l0 : List (S43)) (l1 : List (S59)) (a2 : Int) (a3 : Int) : Option (Int) := plenumref56_Level.l0 k l0 l1 a3 a2 0
theorem plenumref56_Level.mono_l : ∀ k,(∀ y0 y1 y2 y3 y4,LeO (plenumref56_Level.l0 k y0 y1 y2 y3 y4) (plenumref56_Level.l0 (k + 1) y0 y1 y2 y3 y4))
 | 0 => fun _ _ _ _ _ r h => by simp [plenumref56_Level.l0] at h
 | k + 1 => by
  have ih0 := plenumref56_Level.mono_l k
  ·intro y0 y1 y2 y3 y4
   unfold plenumref56_Level.l0
   repeat' first
   | (with_reducible exact ih0 _ _ _ _ _)
   | (with_reducible exact LeO.refl _)
   | (with_reducible exact LeO.none _)
   | (with_reducible refine LeO.ite ?_ ?_)
   | (with_reducible refine LeO.bind ?_ (fun _ => ?_))
   | exact ih0 _ _ _ _ _
   | exact LeO.none _
   | refine LeO.ite ?_ ?_
   | refine LeO.bind ?_ (fun _ => ?_)
theorem plenumref56_Level.mono : ∀ a0 a1 a2 a3 k,LeO (plenumref56_Level.f k a0 a1 a2 a3) (plenumref56_Level.f (k + 1) a0 a1 a2 a3) := by
 intro a0 a1 a2 a3 k
 have ih0 := plenumref56_Level.mono_l k
 unfold plenumref56_Level.f
 repeat' first
   | (with_reducible exact ih0 _ _ _ _ _)
   | (with_reducible exact LeO.refl _)
   | (with_reducible exact LeO.none _)
   | (with_reducible refine LeO.ite ?_ ?_)
   | (with_reducible refine LeO.bind ?_ (fun _ => ?_))
   | exact ih0 _ _ _ _ _
   | exact LeO.none _
   | refine LeO.ite ?_ ?_
   | refine LeO.bind ?_ (fun _ => ?_)
def plenumref56_Level.T5 : Bool × List (List Nat × List Nat) := (true,[([],[]),([],[]),([0,1],[0,1]),([2],[2]),([3],[3]),([4],[4]),([5],[5]),([6],[6]),([6],[6]),([7,8,6],[6,7,8]),([9,6],[6,9]),([6],[6]),([6],[6]),([11,12,6],[6,11,12]),([13,6],[6,13]),([6],[6]),([10,14,15,6,6],[6,10,14,15]),([16,6],[6,16]),([6,17],[6,17])])
def plenumref56_Level.B5 : List Nat := [0,0,3,7,15,31,63,127,127,511,1023,127,127,6271,14463,127,65535,131071,262143]
theorem plenumref56_Level.tab5 : rtab .any (opsOf Try.f16 5) = plenumref56_Level.T5 := by kernel_rfl
theorem plenumref56_Level.bits5 : waitsOk plenumref56_Level.T5.2 plenumref56_Level.B5 = true := by kernel_rfl
set_option maxHeartbeats 100000000 in
set_option maxRecDepth 100000 in
theorem plenumref56_Level.calls (k : Nat) (A0 : Option Addr) (c0 : Nat) (l0 : List (S43)) (A1 : Option Addr) (c1 : Nat) (l1 : List (S59)) (a2 : Int) (a3 : Int) (r : Int) (w : World) (hr0 : Kd.C k43 w A0 l0.length l0) (hc0 : l0.length ≤ c0) (hr1 : Kd.C k59 w A1 l1.length l1) (hc1 : l1.length ≤ c1) (h : plenumref56_Level.f k l0 l1 a2 a3 = some r) :
  Calls Try.prog 16 #[.slice A0 l0.length c0,.slice A1 l1.length c1,.int .i64 a2,.int .i64 a3] w fun e w' => e = .returned (.int .i64 r) ∧ Below w.heap.size w w' := by
 have hu43 := Try.underlying43
 have hu59 := Try.underlying59
 have HR0 := Yd hr0
 have HC0 := Yd hc0
 clear hr0 hc0
 have HR1 := Yd hr1
 have HC1 := Yd hc1
 clear hr1 hc1
 have HB := Yd (Below.refl w.heap.size w)
 have H : (plenumref56_Level.l0 k l0 l1 a3 a2 0) = some r := h
 clear h
 have H' := Yd H
 clear H
 go_enter Try.func16,Try.ntmps16
 go_wp2
 go_loopg [9,10] k (fun kq v9 v10 w' => ∃ (x9_1 : Int) (x10_1 : Int),v9 = .int .i64 x9_1 ∧ v10 = .int .i64 x10_1 ∧ Aside0 (plenumref56_Level.l0 kq l0 l1 a3 x9_1 x10_1 = some r) ∧ Aside0 (kq ≤ k) ∧ Aside0 (Below w.heap.size w w'))
 case atStart => exact ⟨(a2),(0),Y12,Y12,H',⟨Nat.le_refl _⟩,⟨Y3 HB.out⟩⟩
 case round =>
  clear H'
  try clear c1
  try clear p2
  obtain ⟨x9_1,x10_1,rfl,rfl,HA,HK1,HB⟩ := hrel
  cases gk with
  | zero => exact absurd HA.out (by simp [plenumref56_Level.l0])
  | succ k1 =>
   have H := HA.out
   clear HA
   simp only [plenumref56_Level.l0] at H
   by_cases c5 : x10_1 < (l0.length : Int)
   ·rw [if_pos c5] at H
    have c5b0 : decide (x10_1 < (l0.length : Int)) = true := decide_eq_true c5
    clear c5
    by_cases c6 : 0 ≤ x10_1
    case neg => rw [if_neg c6] at H;exact absurd H (by simp)
    rw [if_pos c6] at H
    have c6b0 : decide (0 ≤ x10_1) = true := decide_eq_true c6
    clear c6
    by_cases c7 : x10_1 < (l1.length : Int)
    case neg => rw [if_neg c7] at H;exact absurd H (by simp)
    rw [if_pos c7] at H
    have c7b0 : decide (x10_1 < (l1.length : Int)) = true := decide_eq_true c7
    clear c7
    obtain ⟨bq8,hbq8⟩ : ∃ b_ : Bool,b_ = ((rd_T59 l1 x10_1).f0) := ⟨_,rfl⟩
    replace H : (if (bq8 = true) then (plenumref56_Level.l0 k1 l0 l1 a3 x9_1 (wrap64 (x10_1 + 1))) else ((plenumref56_Free.f ((rd_T43 l0 x10_1).f0) ((rd_T43 l0 x10_1).f1) ((rd_T43 l0 x10_1).f2) ((rd_T43 l0 x10_1).f3) ((rd_T43 l0 x10_1).f4) (bq8) ((rd_T59 l1 x10_1).f1) a3).bind fun t391 => (if t391 = true then (plenumref56_Level.l0 k1 l0 l1 a3 x9_1 (wrap64 (x10_1 + 1))) else (plenumref56_Level.l0 k1 l0 l1 a3 (wrap64 (x9_1 + ((rd_T43 l0 x10_1).f2))) (wrap64 (x10_1 + 1)))))) = some r := by rw [← hbq8] at H;exact H
    have Nbq8 := Yd hbq8
    clear hbq8
    (try rw [← Nbq8.out])
    by_cases c9 : (bq8 = true)
    ·subst c9
     have H1 : (plenumref56_Level.l0 k1 l0 l1 a3 x9_1 (wrap64 (x10_1 + 1))) = some r := by rw [if_pos rfl] at H;exact H
     clear H
     have H := H1
     clear H1
     have H' := Yd H
     clear H
     try go_wp2
     have n0_ := Yd (below_drew1 HB.out)
     clear HB
     have HB := n0_
     clear n0_
     have p388 : 0 ≤ (x10_1 : Int) := Y9
     have q388 : x10_1 < (l1.length : Int) := Y9
     obtain ⟨ad388,e388,hx388_0,hx388_1⟩ := at_T59 HR1.out x10_1 p388 q388
     have hw388_1 := hx388_1
     have hw388_0 := hx388_0
     (try rw [← Nbq8.out] at hx388_0)
     (try rw [← Nbq8.out] at hw388_0)
     cases e388
     replace hx388_0 := Y10 HB.out hx388_0
     replace hx388_1 := Y10 HB.out hx388_1
     replace p388 := eq_true p388
     replace q388 := eq_true q388
     refine start_ (n := 19) (S := fun w' => w'.cell? (ad388.add ((x10_1).toNat * 2)) = some (.bool true) ∧ w'.cell? ⟨(ad388.add ((x10_1).toNat * 2)).block,(ad388.add ((x10_1).toNat * 2)).off + 1,none⟩ = some (.int .i64 ((rd_T59 l1 x10_1).f1))) (ds := []) #[YF,YF,YF,YF,YF,YF,YF,YF,YF,YF,YF,YF,YF,YF,YF,YF,YF,YF,YF] (by kernel_rfl) rfl rfl ⟨(Y10 HB.out hw388_0 :),(Y10 HB.out hw388_1 :)⟩ (fun hHeld => ?_);refine with_tabW plenumref56_Level.tab5 plenumref56_Level.bits5 (fun HT_ HW_ => ?_)
     generalize wr.drew = w10 at HB hx388_0 hx388_1 hHeld ⊢
     refine pure_ (i := 0) (N := some 18) (v := ?_) (a' := ?_) #[YT,YF,YF,YF,YF,YF,YF,YF,YF,YF,YF,YF,YF,YF,YF,YF,YF,YF,YF] rfl rfl (any_of HT_.out (by kernel_rfl)) (fun _ _ _ h => h) (Or.inl ⟨by rfl,?_⟩) ?_ ?_
     rotate_left
     ·intro w'
      go_simp
      with_reducible rfl
     rotate_left
     ·simp only [Act.put,Ya,Yb,Yc,i64_w,i32_w]
      rfl
     refine pure_ (i := 1) (N := some 19) (v := ?_) (a' := ?_) #[YT,YT,YF,YF,YF,YF,YF,YF,YF,YF,YF,YF,YF,YF,YF,YF,YF,YF,YF] rfl rfl (any_of HT_.out (by kernel_rfl)) (fun _ _ _ h => h) (Or.inl ⟨by rfl,?_⟩) ?_ ?_
     rotate_left
     ·intro w'
      go_simp
      with_reducible rfl
     rotate_left
     ·simp only [Act.put,Ya,Yb,Yc,i64_w,i32_w]
      rfl
     refine pure_ (i := 2) (N := some 20) (v := ?_) (a' := ?_) #[YT,YT,YT,YF,YF,YF,YF,YF,YF,YF,YF,YF,YF,YF,YF,YF,YF,YF,YF] rfl rfl (any_of HT_.out (by kernel_rfl)) (fun _ _ _ h => h) (Or.inl ⟨by rfl,?_⟩) ?_ ?_
     rotate_left
     ·intro w'
      go_simp
      with_reducible rfl
     rotate_left
     ·simp only [Act.put,Ya,Yb,Yc,i64_w,i32_w]
      rfl
     refine pure_ (i := 3) (N := some 21) (v := ?_) (a' := ?_) #[YT,YT,YT,YT,YF,YF,YF,YF,YF,YF,YF,YF,YF,YF,YF,YF,YF,YF,YF] rfl rfl (any_of HT_.out (by kernel_rfl)) (fun _ _ _ h => h) (Or.inl ⟨by rfl,?_⟩) ?_ ?_
     rotate_left
     ·intro w'
      go_simp
      with_reducible rfl
     rotate_left
     ·simp only [Act.put,Ya,Yb,Yc,i64_w,i32_w]
      rfl
     refine take_ (i := 4) (N := some 22) (v := ?_) (a' := ?_) #[YT,YT,YT,YT,YT,YF,YF,YF,YF,YF,YF,YF,YF,YF,YF,YF,YF,YF,YF] rfl rfl (take_ofW HT_.out HW_.out (by kernel_rfl)) (fun _ _ _ h => h) (Or.inl ⟨by rfl,?_⟩) hHeld ?_ ?_
     rotate_left
     ·rintro w' ⟨s0,s1⟩
      go_simp
      with_reducible rfl
     rotate_left
     ·simp only [Act.put,Ya,Yb,Yc,i64_w,i32_w]
      rfl
     refine pure_ (i := 5) (N := some 23) (v := ?_) (a' := ?_) #[YT,YT,YT,YT,YT,YT,YF,YF,YF,YF,YF,YF,YF,YF,YF,YF,YF,YF,YF] rfl rfl (any_of HT_.out (by kernel_rfl)) (fun _ _ _ h => h) (Or.inl ⟨by rfl,?_⟩) ?_ ?_
     rotate_left
     ·intro w'
      go_simp
      with_reducible rfl
     rotate_left
     ·simp only [Act.put,Ya,Yb,Yc,i64_w,i32_w]
      rfl
     refine pure_ (i := 6) (N := some 24) (v := ?_) (a' := ?_) #[YT,YT,YT,YT,YT,YT,YT,YF,YF,YF,YF,YF,YF,YF,YF,YF,YF,YF,YF] rfl rfl (any_of HT_.out (by kernel_rfl)) (fun _ _ _ h => h) (Or.inl ⟨by rfl,?_⟩) ?_ ?_
     rotate_left
     ·intro w'
      go_simp
      with_reducible rfl
     rotate_left
     ·simp only [Act.put,Ya,Yb,Yc,i64_w,i32_w]
      rfl
     refine pure_ (i := 7) (N := some 25) (v := undef) (a' := ?_) #[YT,YT,YT,YT,YT,YT,YT,YT,YF,YF,YF,YF,YF,YF,YF,YF,YF,YF,YF] rfl rfl (any_of HT_.out (by kernel_rfl)) (fun _ _ _ h => h) (Or.inr ⟨by rfl,rfl⟩) ?_ ?_
     rotate_left
     ·simp only [Act.put,Ya,Yb,Yc,i64_w,i32_w]
      rfl
     refine pure_ (i := 8) (N := some 26) (v := undef) (a' := ?_) #[YT,YT,YT,YT,YT,YT,YT,YT,YT,YF,YF,YF,YF,YF,YF,YF,YF,YF,YF] rfl rfl (any_of HT_.out (by kernel_rfl)) (fun _ _ _ h => h) (Or.inr ⟨by rfl,rfl⟩) ?_ ?_
     rotate_left
     ·simp only [Act.put,Ya,Yb,Yc,i64_w,i32_w]
      rfl
     refine pure_ (i := 9) (N := some 27) (v := undef) (a' := ?_) #[YT,YT,YT,YT,YT,YT,YT,YT,YT,YT,YF,YF,YF,YF,YF,YF,YF,YF,YF] rfl rfl (any_of HT_.out (by kernel_rfl)) (fun _ _ _ h => h) (Or.inr ⟨by rfl,rfl⟩) ?_ ?_
     rotate_left
     ·simp only [Act.put,Ya,Yb,Yc,i64_w,i32_w]
      rfl
     refine pure_ (i := 10) (N := some 28) (v := undef) (a' := ?_) #[YT,YT,YT,YT,YT,YT,YT,YT,YT,YT,YT,YF,YF,YF,YF,YF,YF,YF,YF] rfl rfl (any_of HT_.out (by kernel_rfl)) (fun _ _ _ h => h) (Or.inr ⟨by rfl,rfl⟩) ?_ ?_
     rotate_left
     ·simp only [Act.put,Ya,Yb,Yc,i64_w,i32_w]
      rfl
     refine pure_ (i := 11) (N := some 29) (v := undef) (a' := ?_) #[YT,YT,YT,YT,YT,YT,YT,YT,YT,YT,YT,YT,YF,YF,YF,YF,YF,YF,YF] rfl rfl (any_of HT_.out (by kernel_rfl)) (fun _ _ _ h => h) (Or.inr ⟨by rfl,rfl⟩) ?_ ?_
     rotate_left
     ·simp only [Act.put,Ya,Yb,Yc,i64_w,i32_w]
      rfl
     refine pure_ (i := 12) (N := some 30) (v := undef) (a' := ?_) #[YT,YT,YT,YT,YT,YT,YT,YT,YT,YT,YT,YT,YT,YF,YF,YF,YF,YF,YF] rfl rfl (any_of HT_.out (by kernel_rfl)) (fun _ _ _ h => h) (Or.inr ⟨by rfl,rfl⟩) ?_ ?_
     rotate_left
     ·simp only [Act.put,Ya,Yb,Yc,i64_w,i32_w]
      rfl
     refine pure_ (i := 13) (N := some 31) (v := undef) (a' := ?_) #[YT,YT,YT,YT,YT,YT,YT,YT,YT,YT,YT,YT,YT,YT,YF,YF,YF,YF,YF] rfl rfl (any_of HT_.out (by kernel_rfl)) (fun _ _ _ h => h) (Or.inr ⟨by rfl,rfl⟩) ?_ ?_
     rotate_left
     ·simp only [Act.put,Ya,Yb,Yc,i64_w,i32_w]
      rfl
     refine pure_ (i := 14) (N := some 32) (v := undef) (a' := ?_) #[YT,YT,YT,YT,YT,YT,YT,YT,YT,YT,YT,YT,YT,YT,YT,YF,YF,YF,YF] rfl rfl (any_of HT_.out (by kernel_rfl)) (fun _ _ _ h => h) (Or.inr ⟨by rfl,rfl⟩) ?_ ?_
     rotate_left
     ·simp only [Act.put,Ya,Yb,Yc,i64_w,i32_w]
      rfl
     refine pure_ (i := 15) (N := some 33) (v := undef) (a' := ?_) #[YT,YT,YT,YT,YT,YT,YT,YT,YT,YT,YT,YT,YT,YT,YT,YT,YF,YF,YF] rfl rfl (any_of HT_.out (by kernel_rfl)) (fun _ _ _ h => h) (Or.inr ⟨by rfl,rfl⟩) ?_ ?_
     rotate_left
     ·simp only [Act.put,Ya,Yb,Yc,i64_w,i32_w]
      rfl
     refine pure_ (i := 16) (N := some 34) (v := undef) (a' := ?_) #[YT,YT,YT,YT,YT,YT,YT,YT,YT,YT,YT,YT,YT,YT,YT,YT,YT,YF,YF] rfl rfl (any_of HT_.out (by kernel_rfl)) (fun _ _ _ h => h) (Or.inr ⟨by rfl,rfl⟩) ?_ ?_
     rotate_left
     ·simp only [Act.put,Ya,Yb,Yc,i64_w,i32_w]
      rfl
     refine pure_ (i := 17) (N := some 35) (v := undef) (a' := ?_) #[YT,YT,YT,YT,YT,YT,YT,YT,YT,YT,YT,YT,YT,YT,YT,YT,YT,YT,YF] rfl rfl (any_of HT_.out (by kernel_rfl)) (fun _ _ _ h => h) (Or.inr ⟨by rfl,rfl⟩) ?_ ?_
     rotate_left
     ·simp only [Act.put,Ya,Yb,Yc,i64_w,i32_w]
      rfl
     refine pure_ (i := 18) (N := some 36) (v := ?_) (a' := ?_) #[YT,YT,YT,YT,YT,YT,YT,YT,YT,YT,YT,YT,YT,YT,YT,YT,YT,YT,YT] rfl rfl (any_of HT_.out (by kernel_rfl)) (fun _ _ _ h => h) (Or.inl ⟨by rfl,?_⟩) ?_ ?_
     rotate_left
     ·intro w'
      go_simp
      with_reducible rfl
     rotate_left
     ·simp only [Act.put,Ya,Yb,Yc,i64_w,i32_w]
      rfl
     refine done_ (done_of HT_.out (by kernel_rfl)) ?_
     try go_wp2
     go_roundg k1
     case measure => have := HK1.out;omega
     case rel => (try rw [← Nbq8.out]);exact ⟨(x9_1),(wrap64 (x10_1 + 1)),Y12,Y12,H',⟨by have := HK1.out;omega⟩,⟨Y3 HB.out⟩⟩
    ·replace c9 := Bool.eq_false_iff.mpr c9
     subst c9
     have H1 : ((plenumref56_Free.f ((rd_T43 l0 x10_1).f0) ((rd_T43 l0 x10_1).f1) ((rd_T43 l0 x10_1).f2) ((rd_T43 l0 x10_1).f3) ((rd_T43 l0 x10_1).f4) (false) ((rd_T59 l1 x10_1).f1) a3).bind fun t391 => (if t391 = true then (plenumref56_Level.l0 k1 l0 l1 a3 x9_1 (wrap64 (x10_1 + 1))) else (plenumref56_Level.l0 k1 l0 l1 a3 (wrap64 (x9_1 + ((rd_T43 l0 x10_1).f2))) (wrap64 (x10_1 + 1))))) = some r := by rw [if_neg (show ¬ (false = true) by decide)] at H;exact H
     clear H
     have H := H1
     clear H1
     replace H := Option.bind_eq_some_iff.mp H
     obtain ⟨t391,A110,H⟩ := H
     replace H : (if t391 = true then (plenumref56_Level.l0 k1 l0 l1 a3 x9_1 (wrap64 (x10_1 + 1))) else (plenumref56_Level.l0 k1 l0 l1 a3 (wrap64 (x9_1 + ((rd_T43 l0 x10_1).f2))) (wrap64 (x10_1 + 1)))) = some r := H
     have A11 := Yd A110
     clear A110
     by_cases c12 : t391 = true
     ·subst c12
      have H1 : (plenumref56_Level.l0 k1 l0 l1 a3 x9_1 (wrap64 (x10_1 + 1))) = some r := by rw [if_pos rfl] at H;exact H
      clear H
      have H := H1
      clear H1
      have H' := Yd H
      clear H
      try go_wp2
      have n0_ := Yd (below_drew1 HB.out)
      clear HB
      have HB := n0_
      clear n0_
      have p388 : 0 ≤ (x10_1 : Int) := Y9
      have q388 : x10_1 < (l1.length : Int) := Y9
      obtain ⟨ad388,e388,hx388_0,hx388_1⟩ := at_T59 HR1.out x10_1 p388 q388
      have hw388_1 := hx388_1
      have hw388_0 := hx388_0
      (try rw [← Nbq8.out] at hx388_0)
      (try rw [← Nbq8.out] at hw388_0)
      cases e388
      replace hx388_0 := Y10 HB.out hx388_0
      replace hx388_1 := Y10 HB.out hx388_1
      replace p388 := eq_true p388
      replace q388 := eq_true q388
      have p389 : 0 ≤ (x10_1 : Int) := Y9
      have q389 : x10_1 < (l0.length : Int) := Y9
      obtain ⟨ad389,e389,hx389_0,hx389_1,hx389_2,hx389_3,hx389_4⟩ := at_T43 HR0.out x10_1 p389 q389
      have hw389_4 := hx389_4
      have hw389_3 := hx389_3
      have hw389_2 := hx389_2
      have hw389_1 := hx389_1
      have hw389_0 := hx389_0
      cases e389
      replace hx389_0 := Y10 HB.out hx389_0
      replace hx389_1 := Y10 HB.out hx389_1
      replace hx389_2 := Y10 HB.out hx389_2
      replace hx389_3 := Y10 HB.out hx389_3
      replace hx389_4 := Y10 HB.out hx389_4
      replace p389 := eq_true p389
      replace q389 := eq_true q389
      have p390 : 0 ≤ (x10_1 : Int) := Y9
      have q390 : x10_1 < (l1.length : Int) := Y9
      obtain ⟨ad390,e390,hx390_0,hx390_1⟩ := at_T59 HR1.out x10_1 p390 q390
      have hw390_1 := hx390_1
      have hw390_0 := hx390_0
      (try rw [← Nbq8.out] at hx390_0)
      (try rw [← Nbq8.out] at hw390_0)
      obtain rfl : ad388 = ad390 := (by injection e390)
      replace hx390_0 := Y10 HB.out hx390_0
      replace hx390_1 := Y10 HB.out hx390_1
      replace p390 := eq_true p390
      replace q390 := eq_true q390
      refine start_ (n := 19) (S := fun w' => w'.cell? (ad388.add ((x10_1).toNat * 2)) = some (.bool false) ∧ w'.cell? ⟨(ad388.add ((x10_1).toNat * 2)).block,(ad388.add ((x10_1).toNat * 2)).off + 1,none⟩ = some (.int .i64 ((rd_T59 l1 x10_1).f1)) ∧ w'.cell? (ad389.add ((x10_1).toNat * 5)) = some (.string ((rd_T43 l0 x10_1).f0)) ∧ w'.cell? ⟨(ad389.add ((x10_1).toNat * 5)).block,(ad389.add ((x10_1).toNat * 5)).off + 1,none⟩ = some (.int .i64 ((rd_T43 l0 x10_1).f1)) ∧ w'.cell? ⟨(ad389.add ((x10_1).toNat * 5)).block,(ad389.add ((x10_1).toNat * 5)).off + 2,none⟩ = some (.int .i64 ((rd_T43 l0 x10_1).f2)) ∧ w'.cell? ⟨(ad389.add ((x10_1).toNat * 5)).block,(ad389.add ((x10_1).toNat * 5)).off + 3,none⟩ = some (.int .i64 ((rd_T43 l0 x10_1).f3)) ∧ w'.cell? ⟨(ad389.add ((x10_1).toNat * 5)).block,(ad389.add ((x10_1).toNat * 5)).off + 4,none⟩ = some (.int .i64 ((rd_T43 l0 x10_1).f4)) ∧ w'.cell? (ad388.add ((x10_1).toNat * 2)) = some (.bool (false)) ∧ w'.cell? ⟨(ad388.add ((x10_1).toNat * 2)).block,(ad388.add ((x10_1).toNat * 2)).off + 1,none⟩ = some (.int .i64 ((rd_T59 l1 x10_1).f1))) (ds := []) #[YF,YF,YF,YF,YF,YF,YF,YF,YF,YF,YF,YF,YF,YF,YF,YF,YF,YF,YF] (by kernel_rfl) rfl rfl ⟨(Y10 HB.out hw388_0 :),(Y10 HB.out hw388_1 :),(Y10 HB.out hw389_0 :),(Y10 HB.out hw389_1 :),(Y10 HB.out hw389_2 :),(Y10 HB.out hw389_3 :),(Y10 HB.out hw389_4 :),(Y10 HB.out hw390_0 :),(Y10 HB.out hw390_1 :)⟩ (fun hHeld => ?_);refine with_tabW plenumref56_Level.tab5 plenumref56_Level.bits5 (fun HT_ HW_ => ?_)
      generalize wr.drew = w13 at HB hx388_0 hx388_1 hx389_0 hx389_1 hx389_2 hx389_3 hx389_4 hx390_0 hx390_1 hHeld ⊢
      refine pure_ (i := 0) (N := some 18) (v := ?_) (a' := ?_) #[YT,YF,YF,YF,YF,YF,YF,YF,YF,YF,YF,YF,YF,YF,YF,YF,YF,YF,YF] rfl rfl (any_of HT_.out (by kernel_rfl)) (fun _ _ _ h => h) (Or.inl ⟨by rfl,?_⟩) ?_ ?_
      rotate_left
      ·intro w'
       go_simp
       with_reducible rfl
      rotate_left
      ·simp only [Act.put,Ya,Yb,Yc,i64_w,i32_w]
       rfl
      refine pure_ (i := 1) (N := some 19) (v := ?_) (a' := ?_) #[YT,YT,YF,YF,YF,YF,YF,YF,YF,YF,YF,YF,YF,YF,YF,YF,YF,YF,YF] rfl rfl (any_of HT_.out (by kernel_rfl)) (fun _ _ _ h => h) (Or.inl ⟨by rfl,?_⟩) ?_ ?_
      rotate_left
      ·intro w'
       go_simp
       with_reducible rfl
      rotate_left
      ·simp only [Act.put,Ya,Yb,Yc,i64_w,i32_w]
       rfl
      refine pure_ (i := 2) (N := some 20) (v := ?_) (a' := ?_) #[YT,YT,YT,YF,YF,YF,YF,YF,YF,YF,YF,YF,YF,YF,YF,YF,YF,YF,YF] rfl rfl (any_of HT_.out (by kernel_rfl)) (fun _ _ _ h => h) (Or.inl ⟨by rfl,?_⟩) ?_ ?_
      rotate_left
      ·intro w'
       go_simp
       with_reducible rfl
      rotate_left
      ·simp only [Act.put,Ya,Yb,Yc,i64_w,i32_w]
       rfl
      refine pure_ (i := 3) (N := some 21) (v := ?_) (a' := ?_) #[YT,YT,YT,YT,YF,YF,YF,YF,YF,YF,YF,YF,YF,YF,YF,YF,YF,YF,YF] rfl rfl (any_of HT_.out (by kernel_rfl)) (fun _ _ _ h => h) (Or.inl ⟨by rfl,?_⟩) ?_ ?_
      rotate_left
      ·intro w'
       go_simp
       with_reducible rfl
      rotate_left
      ·simp only [Act.put,Ya,Yb,Yc,i64_w,i32_w]
       rfl
      refine take_ (i := 4) (N := some 22) (v := ?_) (a' := ?_) #[YT,YT,YT,YT,YT,YF,YF,YF,YF,YF,YF,YF,YF,YF,YF,YF,YF,YF,YF] rfl rfl (take_ofW HT_.out HW_.out (by kernel_rfl)) (fun _ _ _ h => h) (Or.inl ⟨by rfl,?_⟩) hHeld ?_ ?_
      rotate_left
      ·rintro w' ⟨s0,s1,s2,s3,s4,s5,s6,s7,s8⟩
       go_simp
       with_reducible rfl
      rotate_left
      ·simp only [Act.put,Ya,Yb,Yc,i64_w,i32_w]
       rfl
      refine pure_ (i := 5) (N := some 23) (v := ?_) (a' := ?_) #[YT,YT,YT,YT,YT,YT,YF,YF,YF,YF,YF,YF,YF,YF,YF,YF,YF,YF,YF] rfl rfl (any_of HT_.out (by kernel_rfl)) (fun _ _ _ h => h) (Or.inl ⟨by rfl,?_⟩) ?_ ?_
      rotate_left
      ·intro w'
       go_simp
       with_reducible rfl
      rotate_left
      ·simp only [Act.put,Ya,Yb,Yc,i64_w,i32_w]
       rfl
      refine pure_ (i := 6) (N := some 24) (v := ?_) (a' := ?_) #[YT,YT,YT,YT,YT,YT,YT,YF,YF,YF,YF,YF,YF,YF,YF,YF,YF,YF,YF] rfl rfl (any_of HT_.out (by kernel_rfl)) (fun _ _ _ h => h) (Or.inl ⟨by rfl,?_⟩) ?_ ?_
      rotate_left
      ·intro w'
       go_simp
       with_reducible rfl
      rotate_left
      ·simp only [Act.put,Ya,Yb,Yc,i64_w,i32_w]
       rfl
      refine pure_ (i := 7) (N := some 25) (v := ?_) (a' := ?_) #[YT,YT,YT,YT,YT,YT,YT,YT,YF,YF,YF,YF,YF,YF,YF,YF,YF,YF,YF] rfl rfl (any_of HT_.out (by kernel_rfl)) (fun _ _ _ h => h) (Or.inl ⟨by rfl,?_⟩) ?_ ?_
      rotate_left
      ·intro w'
       go_simp
       with_reducible rfl
      rotate_left
      ·simp only [Act.put,Ya,Yb,Yc,i64_w,i32_w]
       rfl
      refine pure_ (i := 8) (N := some 26) (v := ?_) (a' := ?_) #[YT,YT,YT,YT,YT,YT,YT,YT,YT,YF,YF,YF,YF,YF,YF,YF,YF,YF,YF] rfl rfl (any_of HT_.out (by kernel_rfl)) (fun _ _ _ h => h) (Or.inl ⟨by rfl,?_⟩) ?_ ?_
      rotate_left
      ·intro w'
       go_simp
       with_reducible rfl
      rotate_left
      ·simp only [Act.put,Ya,Yb,Yc,i64_w,i32_w]
       rfl
      refine pure_ (i := 9) (N := some 27) (v := ?_) (a' := ?_) #[YT,YT,YT,YT,YT,YT,YT,YT,YT,YT,YF,YF,YF,YF,YF,YF,YF,YF,YF] rfl rfl (any_of HT_.out (by kernel_rfl)) (fun _ _ _ h => h) (Or.inl ⟨by rfl,?_⟩) ?_ ?_
      rotate_left
      ·intro w'
       go_simp
       with_reducible rfl
      rotate_left
      ·simp only [Act.put,Ya,Yb,Yc,i64_w,i32_w]
       rfl
      refine pure_ (i := 11) (N := some 29) (v := ?_) (a' := ?_) #[YT,YT,YT,YT,YT,YT,YT,YT,YT,YT,YF,YT,YF,YF,YF,YF,YF,YF,YF] rfl rfl (any_of HT_.out (by kernel_rfl)) (fun _ _ _ h => h) (Or.inl ⟨by rfl,?_⟩) ?_ ?_
      rotate_left
      ·intro w'
       go_simp
       with_reducible rfl
      rotate_left
      ·simp only [Act.put,Ya,Yb,Yc,i64_w,i32_w]
       rfl
      refine pure_ (i := 12) (N := some 30) (v := ?_) (a' := ?_) #[YT,YT,YT,YT,YT,YT,YT,YT,YT,YT,YF,YT,YT,YF,YF,YF,YF,YF,YF] rfl rfl (any_of HT_.out (by kernel_rfl)) (fun _ _ _ h => h) (Or.inl ⟨by rfl,?_⟩) ?_ ?_
      rotate_left
      ·intro w'
       go_simp
       with_reducible rfl
      rotate_left
      ·simp only [Act.put,Ya,Yb,Yc,i64_w,i32_w]
       rfl
      refine pure_ (i := 13) (N := some 31) (v := ?_) (a' := ?_) #[YT,YT,YT,YT,YT,YT,YT,YT,YT,YT,YF,YT,YT,YT,YF,YF,YF,YF,YF] rfl rfl (any_of HT_.out (by kernel_rfl)) (fun _ _ _ h => h) (Or.inl ⟨by rfl,?_⟩) ?_ ?_
      rotate_left
      ·intro w'
       go_simp
       with_reducible rfl
      rotate_left
      ·simp only [Act.put,Ya,Yb,Yc,i64_w,i32_w]
       rfl
      refine pure_ (i := 15) (N := some 33) (v := ?_) (a' := ?_) #[YT,YT,YT,YT,YT,YT,YT,YT,YT,YT,YF,YT,YT,YT,YF,YT,YF,YF,YF] rfl rfl (any_of HT_.out (by kernel_rfl)) (fun _ _ _ h => h) (Or.inl ⟨by rfl,?_⟩) ?_ ?_
      rotate_left
      ·intro w'
       go_simp
       with_reducible rfl
      rotate_left
      ·simp only [Act.put,Ya,Yb,Yc,i64_w,i32_w]
       rfl
      refine take_ (i := 10) (N := some 28) (v := ?_) (a' := ?_) #[YT,YT,YT,YT,YT,YT,YT,YT,YT,YT,YT,YT,YT,YT,YF,YT,YF,YF,YF] rfl rfl (take_ofW HT_.out HW_.out (by kernel_rfl)) (fun _ _ _ h => h) (Or.inl ⟨by rfl,?_⟩) hHeld ?_ ?_
      rotate_left
      ·rintro w' ⟨s0,s1,s2,s3,s4,s5,s6,s7,s8⟩
       go_simp
       with_reducible rfl
      rotate_left
      ·simp only [Act.put,Ya,Yb,Yc,i64_w,i32_w]
       rfl
      refine take_ (i := 14) (N := some 32) (v := ?_) (a' := ?_) #[YT,YT,YT,YT,YT,YT,YT,YT,YT,YT,YT,YT,YT,YT,YT,YT,YF,YF,YF] rfl rfl (take_ofW HT_.out HW_.out (by kernel_rfl)) (fun _ _ _ h => h) (Or.inl ⟨by rfl,?_⟩) hHeld ?_ ?_
      rotate_left
      ·rintro w' ⟨s0,s1,s2,s3,s4,s5,s6,s7,s8⟩
       go_simp
       with_reducible rfl
      rotate_left
      ·simp only [Act.put,Ya,Yb,Yc,i64_w,i32_w]
       rfl
      refine one_ (i := 16) (N := some 34) #[YT,YT,YT,YT,YT,YT,YT,YT,YT,YT,YT,YT,YT,YT,YT,YT,YT,YF,YF] rfl rfl (one_of HT_.out (by kernel_rfl)) (by decide) (fun K hK => ?_)
      refine goes_ Try.func31 (by kernel_rfl) rfl #[.agg #[.string ((rd_T43 l0 x10_1).f0),.int .i64 ((rd_T43 l0 x10_1).f1),.int .i64 ((rd_T43 l0 x10_1).f2),.int .i64 ((rd_T43 l0 x10_1).f3),.int .i64 ((rd_T43 l0 x10_1).f4)],.agg #[.bool false,.int .i64 ((rd_T59 l1 x10_1).f1)],.int .i64 a3] (by rfl) rfl rfl Y8 ?_
      with_reducible refine (plenumref56_Free.calls ((rd_T43 l0 x10_1).f0) ((rd_T43 l0 x10_1).f1) ((rd_T43 l0 x10_1).f2) ((rd_T43 l0 x10_1).f3) ((rd_T43 l0 x10_1).f4) false ((rd_T59 l1 x10_1).f1) a3 true _ A11.out).mono ?_
      rintro e w14 ⟨rfl,hb⟩
      refine ⟨_,rfl,?_⟩
      have n0_ := Yd (below_step (Y3 HB.out) hb)
      clear HB
      have HB := n0_
      clear n0_
      (try clear hb)
      (try clear hb2)
      (try clear hk)
      (try clear hi)
      refine hK.out _ _ ⟨(Y10 HB.out hw388_0 :),(Y10 HB.out hw388_1 :),(Y10 HB.out hw389_0 :),(Y10 HB.out hw389_1 :),(Y10 HB.out hw389_2 :),(Y10 HB.out hw389_3 :),(Y10 HB.out hw389_4 :),(Y10 HB.out hw390_0 :),(Y10 HB.out hw390_1 :)⟩ (fun hHeld => ?_)
      clear hK K
      refine norm_ (a' := ?_) ?_ ?_
      rotate_left
      ·show Act.put _ (some 34) _ = _
       simp only [Act.put,Ya,Yb,Yc,i64_w,i32_w]
       rfl
      refine pure_ (i := 17) (N := some 35) (v := ?_) (a' := ?_) #[YT,YT,YT,YT,YT,YT,YT,YT,YT,YT,YT,YT,YT,YT,YT,YT,YT,YT,YF] rfl rfl (any_of HT_.out (by kernel_rfl)) (fun _ _ _ h => h) (Or.inl ⟨by rfl,?_⟩) ?_ ?_
      rotate_left
      ·intro w'
       go_simp
       with_reducible rfl
      rotate_left
      ·simp only [Act.put,Ya,Yb,Yc,i64_w,i32_w]
       rfl
      refine pure_ (i := 18) (N := some 36) (v := ?_) (a' := ?_) #[YT,YT,YT,YT,YT,YT,YT,YT,YT,YT,YT,YT,YT,YT,YT,YT,YT,YT,YT] rfl rfl (any_of HT_.out (by kernel_rfl)) (fun _ _ _ h => h) (Or.inl ⟨by rfl,?_⟩) ?_ ?_
      rotate_left
      ·intro w'
       go_simp
       with_reducible rfl
      rotate_left
      ·simp only [Act.put,Ya,Yb,Yc,i64_w,i32_w]
       rfl
      refine done_ (done_of HT_.out (by kernel_rfl)) ?_
      try go_wp2
      go_roundg k1
      case measure => have := HK1.out;omega
      case rel => (try rw [← Nbq8.out]);exact ⟨(x9_1),(wrap64 (x10_1 + 1)),Y12,Y12,H',⟨by have := HK1.out;omega⟩,⟨Y3 HB.out⟩⟩
     ·replace c12 := Bool.eq_false_iff.mpr c12
      subst c12
      have H1 : (plenumref56_Level.l0 k1 l0 l1 a3 (wrap64 (x9_1 + ((rd_T43 l0 x10_1).f2))) (wrap64 (x10_1 + 1))) = some r := by rw [if_neg (show ¬ (false = true) by decide)] at H;exact H
      clear H
      have H := H1
      clear H1
      have H' := Yd H
      clear H
      try go_wp2
      have n0_ := Yd (below_drew1 HB.out)
      clear HB
      have HB := n0_
      clear n0_
      have p388 : 0 ≤ (x10_1 : Int) := Y9
      have q388 : x10_1 < (l1.length : Int) := Y9
      obtain ⟨ad388,e388,hx388_0,hx388_1⟩ := at_T59 HR1.out x10_1 p388 q388
      have hw388_1 := hx388_1
      have hw388_0 := hx388_0
      (try rw [← Nbq8.out] at hx388_0)
      (try rw [← Nbq8.out] at hw388_0)
      cases e388
      replace hx388_0 := Y10 HB.out hx388_0
      replace hx388_1 := Y10 HB.out hx388_1
      replace p388 := eq_true p388
      replace q388 := eq_true q388
      have p389 : 0 ≤ (x10_1 : Int) := Y9
      have q389 : x10_1 < (l0.length : Int) := Y9
      obtain ⟨ad389,e389,hx389_0,hx389_1,hx389_2,hx389_3,hx389_4⟩ := at_T43 HR0.out x10_1 p389 q389
      have hw389_4 := hx389_4
      have hw389_3 := hx389_3
      have hw389_2 := hx389_2
      have hw389_1 := hx389_1
      have hw389_0 := hx389_0
      cases e389
      replace hx389_0 := Y10 HB.out hx389_0
      replace hx389_1 := Y10 HB.out hx389_1
      replace hx389_2 := Y10 HB.out hx389_2
      replace hx389_3 := Y10 HB.out hx389_3
      replace hx389_4 := Y10 HB.out hx389_4
      replace p389 := eq_true p389
      replace q389 := eq_true q389
      have p390 : 0 ≤ (x10_1 : Int) := Y9
      have q390 : x10_1 < (l1.length : Int) := Y9
      obtain ⟨ad390,e390,hx390_0,hx390_1⟩ := at_T59 HR1.out x10_1 p390 q390
      have hw390_1 := hx390_1
      have hw390_0 := hx390_0
      (try rw [← Nbq8.out] at hx390_0)
      (try rw [← Nbq8.out] at hw390_0)
      obtain rfl : ad388 = ad390 := (by injection e390)
      replace hx390_0 := Y10 HB.out hx390_0
      replace hx390_1 := Y10 HB.out hx390_1
      replace p390 := eq_true p390
      replace q390 := eq_true q390
      refine start_ (n := 19) (S := fun w' => w'.cell? (ad388.add ((x10_1).toNat * 2)) = some (.bool false) ∧ w'.cell? ⟨(ad388.add ((x10_1).toNat * 2)).block,(ad388.add ((x10_1).toNat * 2)).off + 1,none⟩ = some (.int .i64 ((rd_T59 l1 x10_1).f1)) ∧ w'.cell? (ad389.add ((x10_1).toNat * 5)) = some (.string ((rd_T43 l0 x10_1).f0)) ∧ w'.cell? ⟨(ad389.add ((x10_1).toNat * 5)).block,(ad389.add ((x10_1).toNat * 5)).off + 1,none⟩ = some (.int .i64 ((rd_T43 l0 x10_1).f1)) ∧ w'.cell? ⟨(ad389.add ((x10_1).toNat * 5)).block,(ad389.add ((x10_1).toNat * 5)).off + 2,none⟩ = some (.int .i64 ((rd_T43 l0 x10_1).f2)) ∧ w'.cell? ⟨(ad389.add ((x10_1).toNat * 5)).block,(ad389.add ((x10_1).toNat * 5)).off + 3,none⟩ = some (.int .i64 ((rd_T43 l0 x10_1).f3)) ∧ w'.cell? ⟨(ad389.add ((x10_1).toNat * 5)).block,(ad389.add ((x10_1).toNat * 5)).off + 4,none⟩ = some (.int .i64 ((rd_T43 l0 x10_1).f4)) ∧ w'.cell? (ad388.add ((x10_1).toNat * 2)) = some (.bool (false)) ∧ w'.cell? ⟨(ad388.add ((x10_1).toNat * 2)).block,(ad388.add ((x10_1).toNat * 2)).off + 1,none⟩ = some (.int .i64 ((rd_T59 l1 x10_1).f1))) (ds := []) #[YF,YF,YF,YF,YF,YF,YF,YF,YF,YF,YF,YF,YF,YF,YF,YF,YF,YF,YF] (by kernel_rfl) rfl rfl ⟨(Y10 HB.out hw388_0 :),(Y10 HB.out hw388_1 :),(Y10 HB.out hw389_0 :),(Y10 HB.out hw389_1 :),(Y10 HB.out hw389_2 :),(Y10 HB.out hw389_3 :),(Y10 HB.out hw389_4 :),(Y10 HB.out hw390_0 :),(Y10 HB.out hw390_1 :)⟩ (fun hHeld => ?_);refine with_tabW plenumref56_Level.tab5 plenumref56_Level.bits5 (fun HT_ HW_ => ?_)
      generalize wr.drew = w15 at HB hx388_0 hx388_1 hx389_0 hx389_1 hx389_2 hx389_3 hx389_4 hx390_0 hx390_1 hHeld ⊢
      refine pure_ (i := 0) (N := some 18) (v := ?_) (a' := ?_) #[YT,YF,YF,YF,YF,YF,YF,YF,YF,YF,YF,YF,YF,YF,YF,YF,YF,YF,YF] rfl rfl (any_of HT_.out (by kernel_rfl)) (fun _ _ _ h => h) (Or.inl ⟨by rfl,?_⟩) ?_ ?_
      rotate_left
      ·intro w'
       go_simp
       with_reducible rfl
      rotate_left
      ·simp only [Act.put,Ya,Yb,Yc,i64_w,i32_w]
       rfl
      refine pure_ (i := 1) (N := some 19) (v := ?_) (a' := ?_) #[YT,YT,YF,YF,YF,YF,YF,YF,YF,YF,YF,YF,YF,YF,YF,YF,YF,YF,YF] rfl rfl (any_of HT_.out (by kernel_rfl)) (fun _ _ _ h => h) (Or.inl ⟨by rfl,?_⟩) ?_ ?_
      rotate_left
      ·intro w'
       go_simp
       with_reducible rfl
      rotate_left
      ·simp only [Act.put,Ya,Yb,Yc,i64_w,i32_w]
       rfl
      refine pure_ (i := 2) (N := some 20) (v := ?_) (a' := ?_) #[YT,YT,YT,YF,YF,YF,YF,YF,YF,YF,YF,YF,YF,YF,YF,YF,YF,YF,YF] rfl rfl (any_of HT_.out (by kernel_rfl)) (fun _ _ _ h => h) (Or.inl ⟨by rfl,?_⟩) ?_ ?_
      rotate_left
      ·intro w'
       go_simp
       with_reducible rfl
      rotate_left
      ·simp only [Act.put,Ya,Yb,Yc,i64_w,i32_w]
       rfl
      refine pure_ (i := 3) (N := some 21) (v := ?_) (a' := ?_) #[YT,YT,YT,YT,YF,YF,YF,YF,YF,YF,YF,YF,YF,YF,YF,YF,YF,YF,YF] rfl rfl (any_of HT_.out (by kernel_rfl)) (fun _ _ _ h => h) (Or.inl ⟨by rfl,?_⟩) ?_ ?_
      rotate_left
      ·intro w'
       go_simp
       with_reducible rfl
      rotate_left
      ·simp only [Act.put,Ya,Yb,Yc,i64_w,i32_w]
       rfl
      refine take_ (i := 4) (N := some 22) (v := ?_) (a' := ?_) #[YT,YT,YT,YT,YT,YF,YF,YF,YF,YF,YF,YF,YF,YF,YF,YF,YF,YF,YF] rfl rfl (take_ofW HT_.out HW_.out (by kernel_rfl)) (fun _ _ _ h => h) (Or.inl ⟨by rfl,?_⟩) hHeld ?_ ?_
      rotate_left
      ·rintro w' ⟨s0,s1,s2,s3,s4,s5,s6,s7,s8⟩
       go_simp
       with_reducible rfl
      rotate_left
      ·simp only [Act.put,Ya,Yb,Yc,i64_w,i32_w]
       rfl
      refine pure_ (i := 5) (N := some 23) (v := ?_) (a' := ?_) #[YT,YT,YT,YT,YT,YT,YF,YF,YF,YF,YF,YF,YF,YF,YF,YF,YF,YF,YF] rfl rfl (any_of HT_.out (by kernel_rfl)) (fun _ _ _ h => h) (Or.inl ⟨by rfl,?_⟩) ?_ ?_
      rotate_left
      ·intro w'
       go_simp
       with_reducible rfl
      rotate_left
      ·simp only [Act.put,Ya,Yb,Yc,i64_w,i32_w]
       rfl
      refine pure_ (i := 6) (N := some 24) (v := ?_) (a' := ?_) #[YT,YT,YT,YT,YT,YT,YT,YF,YF,YF,YF,YF,YF,YF,YF,YF,YF,YF,YF] rfl rfl (any_of HT_.out (by kernel_rfl)) (fun _ _ _ h => h) (Or.inl ⟨by rfl,?_⟩) ?_ ?_
      rotate_left
      ·intro w'
       go_simp
       with_reducible rfl
      rotate_left
      ·simp only [Act.put,Ya,Yb,Yc,i64_w,i32_w]
       rfl
      refine pure_ (i := 7) (N := some 25) (v := ?_) (a' := ?_) #[YT,YT,YT,YT,YT,YT,YT,YT,YF,YF,YF,YF,YF,YF,YF,YF,YF,YF,YF] rfl rfl (any_of HT_.out (by kernel_rfl)) (fun _ _ _ h => h) (Or.inl ⟨by rfl,?_⟩) ?_ ?_
      rotate_left
      ·intro w'
       go_simp
       with_reducible rfl
      rotate_left
      ·simp only [Act.put,Ya,Yb,Yc,i64_w,i32_w]
       rfl
      refine pure_ (i := 8) (N := some 26) (v := ?_) (a' := ?_) #[YT,YT,YT,YT,YT,YT,YT,YT,YT,YF,YF,YF,YF,YF,YF,YF,YF,YF,YF] rfl rfl (any_of HT_.out (by kernel_rfl)) (fun _ _ _ h => h) (Or.inl ⟨by rfl,?_⟩) ?_ ?_
      rotate_left
      ·intro w'
       go_simp
       with_reducible rfl
      rotate_left
      ·simp only [Act.put,Ya,Yb,Yc,i64_w,i32_w]
       rfl
      refine pure_ (i := 9) (N := some 27) (v := ?_) (a' := ?_) #[YT,YT,YT,YT,YT,YT,YT,YT,YT,YT,YF,YF,YF,YF,YF,YF,YF,YF,YF] rfl rfl (any_of HT_.out (by kernel_rfl)) (fun _ _ _ h => h) (Or.inl ⟨by rfl,?_⟩) ?_ ?_
      rotate_left
      ·intro w'
       go_simp
       with_reducible rfl
      rotate_left
      ·simp only [Act.put,Ya,Yb,Yc,i64_w,i32_w]
       rfl
      refine pure_ (i := 11) (N := some 29) (v := ?_) (a' := ?_) #[YT,YT,YT,YT,YT,YT,YT,YT,YT,YT,YF,YT,YF,YF,YF,YF,YF,YF,YF] rfl rfl (any_of HT_.out (by kernel_rfl)) (fun _ _ _ h => h) (Or.inl ⟨by rfl,?_⟩) ?_ ?_
      rotate_left
      ·intro w'
       go_simp
       with_reducible rfl
      rotate_left
      ·simp only [Act.put,Ya,Yb,Yc,i64_w,i32_w]
       rfl
      refine pure_ (i := 12) (N := some 30) (v := ?_) (a' := ?_) #[YT,YT,YT,YT,YT,YT,YT,YT,YT,YT,YF,YT,YT,YF,YF,YF,YF,YF,YF] rfl rfl (any_of HT_.out (by kernel_rfl)) (fun _ _ _ h => h) (Or.inl ⟨by rfl,?_⟩) ?_ ?_
      rotate_left
      ·intro w'
       go_simp
       with_reducible rfl
      rotate_left
      ·simp only [Act.put,Ya,Yb,Yc,i64_w,i32_w]
       rfl
      refine pure_ (i := 13) (N := some 31) (v := ?_) (a' := ?_) #[YT,YT,YT,YT,YT,YT,YT,YT,YT,YT,YF,YT,YT,YT,YF,YF,YF,YF,YF] rfl rfl (any_of HT_.out (by kernel_rfl)) (fun _ _ _ h => h) (Or.inl ⟨by rfl,?_⟩) ?_ ?_
      rotate_left
      ·intro w'
       go_simp
       with_reducible rfl
      rotate_left
      ·simp only [Act.put,Ya,Yb,Yc,i64_w,i32_w]
       rfl
      refine pure_ (i := 15) (N := some 33) (v := ?_) (a' := ?_) #[YT,YT,YT,YT,YT,YT,YT,YT,YT,YT,YF,YT,YT,YT,YF,YT,YF,YF,YF] rfl rfl (any_of HT_.out (by kernel_rfl)) (fun _ _ _ h => h) (Or.inl ⟨by rfl,?_⟩) ?_ ?_
      rotate_left
      ·intro w'
       go_simp
       with_reducible rfl
      rotate_left
      ·simp only [Act.put,Ya,Yb,Yc,i64_w,i32_w]
       rfl
      refine take_ (i := 10) (N := some 28) (v := ?_) (a' := ?_) #[YT,YT,YT,YT,YT,YT,YT,YT,YT,YT,YT,YT,YT,YT,YF,YT,YF,YF,YF] rfl rfl (take_ofW HT_.out HW_.out (by kernel_rfl)) (fun _ _ _ h => h) (Or.inl ⟨by rfl,?_⟩) hHeld ?_ ?_
      rotate_left
      ·rintro w' ⟨s0,s1,s2,s3,s4,s5,s6,s7,s8⟩
       go_simp
       with_reducible rfl
      rotate_left
      ·simp only [Act.put,Ya,Yb,Yc,i64_w,i32_w]
       rfl
      refine take_ (i := 14) (N := some 32) (v := ?_) (a' := ?_) #[YT,YT,YT,YT,YT,YT,YT,YT,YT,YT,YT,YT,YT,YT,YT,YT,YF,YF,YF] rfl rfl (take_ofW HT_.out HW_.out (by kernel_rfl)) (fun _ _ _ h => h) (Or.inl ⟨by rfl,?_⟩) hHeld ?_ ?_
      rotate_left
      ·rintro w' ⟨s0,s1,s2,s3,s4,s5,s6,s7,s8⟩
       go_simp
       with_reducible rfl
      rotate_left
      ·simp only [Act.put,Ya,Yb,Yc,i64_w,i32_w]
       rfl
      refine one_ (i := 16) (N := some 34) #[YT,YT,YT,YT,YT,YT,YT,YT,YT,YT,YT,YT,YT,YT,YT,YT,YT,YF,YF] rfl rfl (one_of HT_.out (by kernel_rfl)) (by decide) (fun K hK => ?_)
      refine goes_ Try.func31 (by kernel_rfl) rfl #[.agg #[.string ((rd_T43 l0 x10_1).f0),.int .i64 ((rd_T43 l0 x10_1).f1),.int .i64 ((rd_T43 l0 x10_1).f2),.int .i64 ((rd_T43 l0 x10_1).f3),.int .i64 ((rd_T43 l0 x10_1).f4)],.agg #[.bool false,.int .i64 ((rd_T59 l1 x10_1).f1)],.int .i64 a3] (by rfl) rfl rfl Y8 ?_
      with_reducible refine (plenumref56_Free.calls ((rd_T43 l0 x10_1).f0) ((rd_T43 l0 x10_1).f1) ((rd_T43 l0 x10_1).f2) ((rd_T43 l0 x10_1).f3) ((rd_T43 l0 x10_1).f4) false ((rd_T59 l1 x10_1).f1) a3 false _ A11.out).mono ?_
      rintro e w16 ⟨rfl,hb⟩
      refine ⟨_,rfl,?_⟩
      have n0_ := Yd (below_step (Y3 HB.out) hb)
      clear HB
      have HB := n0_
      clear n0_
      (try clear hb)
      (try clear hb2)
      (try clear hk)
      (try clear hi)
      refine hK.out _ _ ⟨(Y10 HB.out hw388_0 :),(Y10 HB.out hw388_1 :),(Y10 HB.out hw389_0 :),(Y10 HB.out hw389_1 :),(Y10 HB.out hw389_2 :),(Y10 HB.out hw389_3 :),(Y10 HB.out hw389_4 :),(Y10 HB.out hw390_0 :),(Y10 HB.out hw390_1 :)⟩ (fun hHeld => ?_)
      clear hK K
      refine norm_ (a' := ?_) ?_ ?_
      rotate_left
      ·show Act.put _ (some 34) _ = _
       simp only [Act.put,Ya,Yb,Yc,i64_w,i32_w]
       rfl
      refine pure_ (i := 17) (N := some 35) (v := ?_) (a' := ?_) #[YT,YT,YT,YT,YT,YT,YT,YT,YT,YT,YT,YT,YT,YT,YT,YT,YT,YT,YF] rfl rfl (any_of HT_.out (by kernel_rfl)) (fun _ _ _ h => h) (Or.inl ⟨by rfl,?_⟩) ?_ ?_
      rotate_left
      ·intro w'
       go_simp
       with_reducible rfl
      rotate_left
      ·simp only [Act.put,Ya,Yb,Yc,i64_w,i32_w]
       rfl
      refine pure_ (i := 18) (N := some 36) (v := ?_) (a' := ?_) #[YT,YT,YT,YT,YT,YT,YT,YT,YT,YT,YT,YT,YT,YT,YT,YT,YT,YT,YT] rfl rfl (any_of HT_.out (by kernel_rfl)) (fun _ _ _ h => h) (Or.inl ⟨by rfl,?_⟩) ?_ ?_
      rotate_left
      ·intro w'
       go_simp
       with_reducible rfl
      rotate_left
      ·simp only [Act.put,Ya,Yb,Yc,i64_w,i32_w]
       rfl
      refine done_ (done_of HT_.out (by kernel_rfl)) ?_
      have p392 : 0 ≤ (x10_1 : Int) := Y9
      have q392 : x10_1 < (l0.length : Int) := Y9
      obtain ⟨ad392,e392,hx392_0,hx392_1,hx392_2,hx392_3,hx392_4⟩ := at_T43 HR0.out x10_1 p392 q392
      obtain rfl : ad389 = ad392 := (by injection e392)
      replace hx392_0 := Y10 HB.out hx392_0
      replace hx392_1 := Y10 HB.out hx392_1
      replace hx392_2 := Y10 HB.out hx392_2
      replace hx392_3 := Y10 HB.out hx392_3
      replace hx392_4 := Y10 HB.out hx392_4
      replace p392 := eq_true p392
      replace q392 := eq_true q392
      try go_wp2
      go_roundg k1
      case measure => have := HK1.out;omega
      case rel => (try rw [← Nbq8.out]);exact ⟨(wrap64 (x9_1 + ((rd_T43 l0 x10_1).f2))),(wrap64 (x10_1 + 1)),Y12,Y12,H',⟨by have := HK1.out;omega⟩,⟨Y3 HB.out⟩⟩
   ·rw [if_neg c5] at H
    have c5b0 : decide (x10_1 < (l0.length : Int)) = false := decide_eq_false c5
    clear c5
    obtain rfl := Option.some.inj H
    go_wp2
    go_ret
    exact ⟨by first | rfl | (simp [errW_none,errW_some] <;> rfl) | (simp [*,errW_none,errW_some] <;> rfl),Y3 HB.out⟩
end Go.Proofs.Ytcdjhdfjkfbgdaa.PD56
namespace Go.Proofs.Ytcdjhdfjkfbgdaa.PD56
open Go.RowKit Go.Proofs.YtcdjhdfjkfbgdaaW.PrintWords Go.Proofs.YtcdjhdfjkfbgdaaW.PrintLast Go.Proofs.YtcdjhdfjkfbgdaaW.PrintMore
attribute [local go_sem] max2_int min2_int max_two min_two max_three min_three max_four min_four
mutual
def plenumlaw56_DemandSteps.j0 : Nat → List (S43) → List (S59) → Int → Int → Int → Bool → Option (Bool)
 | 0,_,_,_,_,_,_ => none
 | k + 1,x0,x1,x2,x3,x4,x28 => if x28 = true then ((plenumlaw56_awake.f k).bind fun t393 => (some t393)) else ((plenumlaw56_ours.f k x1).bind fun t394 => ((demand_Step.f k x0 t394 x2 x3 x4).bind fun bt397 => ((plenumlaw56_ours.f k x1).bind fun t401 => ((demand_Power.f k x0 t401).bind fun bt404 => ((plenumlaw56_ours.f k x1).bind fun t406 => ((demand_Level.f k x0 t406 x2 x4).bind fun bt409 => ((plenumref56_Check.f k x0).bind fun t411 => (if t411 = 0 then (if (x1.length : Int) = (x0.length : Int) then (if bt404.2 = 0 then ((plenumref56_Power.f k x0 x1).bind fun t413 => (plenumlaw56_DemandSteps.j1 k x0 x1 x2 x3 x4 bt397.1 bt397.2 bt409.1 bt409.2 (bt404.1 != t413))) else (plenumlaw56_DemandSteps.j1 k x0 x1 x2 x3 x4 bt397.1 bt397.2 bt409.1 bt409.2 true)) else (if bt404.2 = 1 then (if bt404.1 = 0 then (plenumlaw56_DemandSteps.j1 k x0 x1 x2 x3 x4 bt397.1 bt397.2 bt409.1 bt409.2 false) else (plenumlaw56_DemandSteps.j1 k x0 x1 x2 x3 x4 bt397.1 bt397.2 bt409.1 bt409.2 true)) else (plenumlaw56_DemandSteps.j1 k x0 x1 x2 x3 x4 bt397.1 bt397.2 bt409.1 bt409.2 true))) else ((plenumlaw56_awake.f k).bind fun t412 => (if t412 = true then (if bt397.2 = t411 then (if bt404.2 = t411 then (if bt409.2 = t411 then (if (bt397.1.length : Int) = 0 then (if bt404.1 = 0 then (some (bt409.1 == 0)) else (none)) else (none)) else (none)) else (none)) else (none)) else (none)))))))))))
def plenumlaw56_DemandSteps.j1 : Nat → List (S43) → List (S59) → Int → Int → Int → List (S51) → Int → Int → Int → Bool → Option (Bool)
 | 0,_,_,_,_,_,_,_,_,_,_ => none
 | k + 1,x0,x1,x2,x3,x4,x11,x12,x15,x16,x119 => if x119 = true then (none) else ((plenumref56_Ready.f k x0 x1 x4).bind fun t414 => ((plenumlaw56_inside.f x2).bind fun t415 => (if t415 = true then (plenumlaw56_DemandSteps.j2 k x0 x1 x2 x3 x4 x11 x12 x15 x16 t414 t414) else (plenumlaw56_DemandSteps.j2 k x0 x1 x2 x3 x4 x11 x12 x15 x16 6 6))))
def plenumlaw56_DemandSteps.j2 : Nat → List (S43) → List (S59) → Int → Int → Int → List (S51) → Int → Int → Int → Int → Int → Option (Bool)
 | 0,_,_,_,_,_,_,_,_,_,_,_ => none
 | k + 1,x0,x1,x2,x3,x4,x11,x12,x15,x16,x19,x20 => (plenumlaw56_inside.f x3).bind fun t416 => (if t416 = true then (plenumlaw56_DemandSteps.j3 k x0 x1 x2 x3 x4 x11 x12 x15 x16 x19 x20) else (plenumlaw56_DemandSteps.j3 k x0 x1 x2 x3 x4 x11 x12 x15 x16 6 x20))
def plenumlaw56_DemandSteps.j3 : Nat → List (S43) → List (S59) → Int → Int → Int → List (S51) → Int → Int → Int → Int → Int → Option (Bool)
 | 0,_,_,_,_,_,_,_,_,_,_,_ => none
 | k + 1,x0,x1,x2,x3,x4,x11,x12,x15,x16,x19,x20 => if x12 = x19 then (if x16 = x20 then (if x19 = 0 then (if x20 = 0 then (plenumlaw56_DemandSteps.j4 k x0 x1 x2 x3 x4 x11 x15 x19 x20 false) else (plenumlaw56_DemandSteps.j4 k x0 x1 x2 x3 x4 x11 x15 x19 x20 (x15 != 0))) else (if (x11.length : Int) > 0 then (plenumlaw56_DemandSteps.j4 k x0 x1 x2 x3 x4 x11 x15 x19 x20 true) else (if x20 = 0 then (plenumlaw56_DemandSteps.j4 k x0 x1 x2 x3 x4 x11 x15 x19 x20 false) else (plenumlaw56_DemandSteps.j4 k x0 x1 x2 x3 x4 x11 x15 x19 x20 (x15 != 0))))) else (plenumlaw56_DemandSteps.j4 k x0 x1 x2 x3 x4 x11 x15 x19 x20 true)) else (plenumlaw56_DemandSteps.j4 k x0 x1 x2 x3 x4 x11 x15 x19 x20 true)
def plenumlaw56_DemandSteps.j4 : Nat → List (S43) → List (S59) → Int → Int → Int → List (S51) → Int → Int → Int → Bool → Option (Bool)
 | 0,_,_,_,_,_,_,_,_,_,_ => none
 | k + 1,x0,x1,x2,x3,x4,x11,x15,x19,x20,x156 => if x156 = true then (none) else ((plenumlaw56_awake.f k).bind fun t417 => (if t417 = true then (if x19 = 0 then ((plenumlaw56_theirs.f k x11).bind fun t418 => ((plenumref56_Step.f k x0 x1 x2 x3 x4).bind fun t421 => ((plenumref56_Same.f k t418 t421).bind fun t424 => (if t424 = true then (if x20 = 0 then ((plenumref56_Level.f k x0 x1 x2 x4).bind fun t425 => (some (x15 == t425))) else (some true)) else (none))))) else (if x20 = 0 then ((plenumref56_Level.f k x0 x1 x2 x4).bind fun t426 => (some (x15 == t426))) else (some true))) else (none)))
end
def plenumlaw56_DemandSteps.f (k : Nat) (l0 : List (S43)) (l1 : List (S59)) (a2 : Int) (a3 : Int) (a4 : Int) : Option (Bool) := if (l0.length : Int) > 70 then (plenumlaw56_DemandSteps.j0 k l0 l1 a2 a3 a4 true) else (plenumlaw56_DemandSteps.j0 k l0 l1 a2 a3 a4 (decide ((l1.length : Int) > 70)))
theorem plenumlaw56_DemandSteps.mono_l : ∀ k,(∀ y0 y1 y2 y3 y4 y5,LeO (plenumlaw56_DemandSteps.j0 k y0 y1 y2 y3 y4 y5) (plenumlaw56_DemandSteps.j0 (k + 1) y0 y1 y2 y3 y4 y5)) ∧ (∀ y0 y1 y2 y3 y4 y5 y6 y7 y8 y9,LeO (plenumlaw56_DemandSteps.j1 k y0 y1 y2 y3 y4 y5 y6 y7 y8 y9) (plenumlaw56_DemandSteps.j1 (k + 1) y0 y1 y2 y3 y4 y5 y6 y7 y8 y9)) ∧ (∀ y0 y1 y2 y3 y4 y5 y6 y7 y8 y9 y10,LeO (plenumlaw56_DemandSteps.j2 k y0 y1 y2 y3 y4 y5 y6 y7 y8 y9 y10) (plenumlaw56_DemandSteps.j2 (k + 1) y0 y1 y2 y3 y4 y5 y6 y7 y8 y9 y10)) ∧ (∀ y0 y1 y2 y3 y4 y5 y6 y7 y8 y9 y10,LeO (plenumlaw56_DemandSteps.j3 k y0 y1 y2 y3 y4 y5 y6 y7 y8 y9 y10) (plenumlaw56_DemandSteps.j3 (k + 1) y0 y1 y2 y3 y4 y5 y6 y7 y8 y9 y10)) ∧ (∀ y0 y1 y2 y3 y4 y5 y6 y7 y8 y9,LeO (plenumlaw56_DemandSteps.j4 k y0 y1 y2 y3 y4 y5 y6 y7 y8 y9) (plenumlaw56_DemandSteps.j4 (k + 1) y0 y1 y2 y3 y4 y5 y6 y7 y8 y9))
 | 0 => ⟨fun _ _ _ _ _ _ r h => by simp [plenumlaw56_DemandSteps.j0] at h,fun _ _ _ _ _ _ _ _ _ _ r h => by simp [plenumlaw56_DemandSteps.j1] at h,fun _ _ _ _ _ _ _ _ _ _ _ r h => by simp [plenumlaw56_DemandSteps.j2] at h,fun _ _ _ _ _ _ _ _ _ _ _ r h => by simp [plenumlaw56_DemandSteps.j3] at h,fun _ _ _ _ _ _ _ _ _ _ r h => by simp [plenumlaw56_DemandSteps.j4] at h⟩
 | k + 1 => by
  obtain ⟨ih0,ih1,ih2,ih3,ih4⟩ := plenumlaw56_DemandSteps.mono_l k
  refine ⟨?_,?_,?_,?_,?_⟩
  ·intro y0 y1 y2 y3 y4 y5
   unfold plenumlaw56_DemandSteps.j0
   repeat' first
   | (with_reducible exact ih0 _ _ _ _ _ _)
   | (with_reducible exact ih1 _ _ _ _ _ _ _ _ _ _)
   | (with_reducible exact ih2 _ _ _ _ _ _ _ _ _ _ _)
   | (with_reducible exact ih3 _ _ _ _ _ _ _ _ _ _ _)
   | (with_reducible exact ih4 _ _ _ _ _ _ _ _ _ _)
   | (with_reducible exact demand_Level.mono _ _ _ _ _)
   | (with_reducible exact demand_Power.mono _ _ _)
   | (with_reducible exact demand_Step.mono _ _ _ _ _ _)
   | (with_reducible exact plenumlaw56_awake.mono _)
   | (with_reducible exact plenumlaw56_ours.mono _ _)
   | (with_reducible exact plenumlaw56_theirs.mono _ _)
   | (with_reducible exact plenumref56_Check.mono _ _)
   | (with_reducible exact plenumref56_Level.mono _ _ _ _ _)
   | (with_reducible exact plenumref56_Power.mono _ _ _)
   | (with_reducible exact plenumref56_Ready.mono _ _ _ _)
   | (with_reducible exact plenumref56_Same.mono _ _ _)
   | (with_reducible exact plenumref56_Step.mono _ _ _ _ _ _)
   | (with_reducible exact LeO.refl _)
   | (with_reducible exact LeO.none _)
   | (with_reducible refine LeO.ite ?_ ?_)
   | (with_reducible refine LeO.bind ?_ (fun _ => ?_))
   | exact ih0 _ _ _ _ _ _
   | exact ih1 _ _ _ _ _ _ _ _ _ _
   | exact ih2 _ _ _ _ _ _ _ _ _ _ _
   | exact ih3 _ _ _ _ _ _ _ _ _ _ _
   | exact ih4 _ _ _ _ _ _ _ _ _ _
   | exact demand_Level.mono _ _ _ _ _
   | exact demand_Power.mono _ _ _
   | exact demand_Step.mono _ _ _ _ _ _
   | exact plenumlaw56_awake.mono _
   | exact plenumlaw56_ours.mono _ _
   | exact plenumlaw56_theirs.mono _ _
   | exact plenumref56_Check.mono _ _
   | exact plenumref56_Level.mono _ _ _ _ _
   | exact plenumref56_Power.mono _ _ _
   | exact plenumref56_Ready.mono _ _ _ _
   | exact plenumref56_Same.mono _ _ _
   | exact plenumref56_Step.mono _ _ _ _ _ _
   | exact LeO.none _
   | refine LeO.ite ?_ ?_
   | refine LeO.bind ?_ (fun _ => ?_)
  ·intro y0 y1 y2 y3 y4 y5 y6 y7 y8 y9
   unfold plenumlaw56_DemandSteps.j1
   repeat' first
   | (with_reducible exact ih0 _ _ _ _ _ _)
   | (with_reducible exact ih1 _ _ _ _ _ _ _ _ _ _)
   | (with_reducible exact ih2 _ _ _ _ _ _ _ _ _ _ _)
   | (with_reducible exact ih3 _ _ _ _ _ _ _ _ _ _ _)
   | (with_reducible exact ih4 _ _ _ _ _ _ _ _ _ _)
   | (with_reducible exact demand_Level.mono _ _ _ _ _)
   | (with_reducible exact demand_Power.mono _ _ _)
   | (with_reducible exact demand_Step.mono _ _ _ _ _ _)
   | (with_reducible exact plenumlaw56_awake.mono _)
   | (with_reducible exact plenumlaw56_ours.mono _ _)
   | (with_reducible exact plenumlaw56_theirs.mono _ _)
   | (with_reducible exact plenumref56_Check.mono _ _)
   | (with_reducible exact plenumref56_Level.mono _ _ _ _ _)
   | (with_reducible exact plenumref56_Power.mono _ _ _)
   | (with_reducible exact plenumref56_Ready.mono _ _ _ _)
   | (with_reducible exact plenumref56_Same.mono _ _ _)
   | (with_reducible exact plenumref56_Step.mono _ _ _ _ _ _)
   | (with_reducible exact LeO.refl _)
   | (with_reducible exact LeO.none _)
   | (with_reducible refine LeO.ite ?_ ?_)
   | (with_reducible refine LeO.bind ?_ (fun _ => ?_))
   | exact ih0 _ _ _ _ _ _
   | exact ih1 _ _ _ _ _ _ _ _ _ _
   | exact ih2 _ _ _ _ _ _ _ _ _ _ _
   | exact ih3 _ _ _ _ _ _ _ _ _ _ _
   | exact ih4 _ _ _ _ _ _ _ _ _ _
   | exact demand_Level.mono _ _ _ _ _
   | exact demand_Power.mono _ _ _
   | exact demand_Step.mono _ _ _ _ _ _
   | exact plenumlaw56_awake.mono _
   | exact plenumlaw56_ours.mono _ _
   | exact plenumlaw56_theirs.mono _ _
   | exact plenumref56_Check.mono _ _
   | exact plenumref56_Level.mono _ _ _ _ _
   | exact plenumref56_Power.mono _ _ _
   | exact plenumref56_Ready.mono _ _ _ _
   | exact plenumref56_Same.mono _ _ _
   | exact plenumref56_Step.mono _ _ _ _ _ _
   | exact LeO.none _
   | refine LeO.ite ?_ ?_
   | refine LeO.bind ?_ (fun _ => ?_)
  ·intro y0 y1 y2 y3 y4 y5 y6 y7 y8 y9 y10
   unfold plenumlaw56_DemandSteps.j2
   repeat' first
   | (with_reducible exact ih0 _ _ _ _ _ _)
   | (with_reducible exact ih1 _ _ _ _ _ _ _ _ _ _)
   | (with_reducible exact ih2 _ _ _ _ _ _ _ _ _ _ _)
   | (with_reducible exact ih3 _ _ _ _ _ _ _ _ _ _ _)
   | (with_reducible exact ih4 _ _ _ _ _ _ _ _ _ _)
   | (with_reducible exact demand_Level.mono _ _ _ _ _)
   | (with_reducible exact demand_Power.mono _ _ _)
   | (with_reducible exact demand_Step.mono _ _ _ _ _ _)
   | (with_reducible exact plenumlaw56_awake.mono _)
   | (with_reducible exact plenumlaw56_ours.mono _ _)
   | (with_reducible exact plenumlaw56_theirs.mono _ _)
   | (with_reducible exact plenumref56_Check.mono _ _)
   | (with_reducible exact plenumref56_Level.mono _ _ _ _ _)
   | (with_reducible exact plenumref56_Power.mono _ _ _)
   | (with_reducible exact plenumref56_Ready.mono _ _ _ _)
   | (with_reducible exact plenumref56_Same.mono _ _ _)
   | (with_reducible exact plenumref56_Step.mono _ _ _ _ _ _)
   | (with_reducible exact LeO.refl _)
   | (with_reducible exact LeO.none _)
   | (with_reducible refine LeO.ite ?_ ?_)
   | (with_reducible refine LeO.bind ?_ (fun _ => ?_))
   | exact ih0 _ _ _ _ _ _
   | exact ih1 _ _ _ _ _ _ _ _ _ _
   | exact ih2 _ _ _ _ _ _ _ _ _ _ _
   | exact ih3 _ _ _ _ _ _ _ _ _ _ _
   | exact ih4 _ _ _ _ _ _ _ _ _ _
   | exact demand_Level.mono _ _ _ _ _
   | exact demand_Power.mono _ _ _
   | exact demand_Step.mono _ _ _ _ _ _
   | exact plenumlaw56_awake.mono _
   | exact plenumlaw56_ours.mono _ _
   | exact plenumlaw56_theirs.mono _ _
   | exact plenumref56_Check.mono _ _
   | exact plenumref56_Level.mono _ _ _ _ _
   | exact plenumref56_Power.mono _ _ _
   | exact plenumref56_Ready.mono _ _ _ _
   | exact plenumref56_Same.mono _ _ _
   | exact plenumref56_Step.mono _ _ _ _ _ _
   | exact LeO.none _
   | refine LeO.ite ?_ ?_
   | refine LeO.bind ?_ (fun _ => ?_)
  ·intro y0 y1 y2 y3 y4 y5 y6 y7 y8 y9 y10
   unfold plenumlaw56_DemandSteps.j3
   repeat' first
   | (with_reducible exact ih0 _ _ _ _ _ _)
   | (with_reducible exact ih1 _ _ _ _ _ _ _ _ _ _)
   | (with_reducible exact ih2 _ _ _ _ _ _ _ _ _ _ _)
   | (with_reducible exact ih3 _ _ _ _ _ _ _ _ _ _ _)
   | (with_reducible exact ih4 _ _ _ _ _ _ _ _ _ _)
   | (with_reducible exact demand_Level.mono _ _ _ _ _)
   | (with_reducible exact demand_Power.mono _ _ _)
   | (with_reducible exact demand_Step.mono _ _ _ _ _ _)
   | (with_reducible exact plenumlaw56_awake.mono _)
   | (with_reducible exact plenumlaw56_ours.mono _ _)
   | (with_reducible exact plenumlaw56_theirs.mono _ _)
   | (with_reducible exact plenumref56_Check.mono _ _)
   | (with_reducible exact plenumref56_Level.mono _ _ _ _ _)
   | (with_reducible exact plenumref56_Power.mono _ _ _)
   | (with_reducible exact plenumref56_Ready.mono _ _ _ _)
   | (with_reducible exact plenumref56_Same.mono _ _ _)
   | (with_reducible exact plenumref56_Step.mono _ _ _ _ _ _)
   | (with_reducible exact LeO.refl _)
   | (with_reducible exact LeO.none _)
   | (with_reducible refine LeO.ite ?_ ?_)
   | (with_reducible refine LeO.bind ?_ (fun _ => ?_))
   | exact ih0 _ _ _ _ _ _
   | exact ih1 _ _ _ _ _ _ _ _ _ _
   | exact ih2 _ _ _ _ _ _ _ _ _ _ _
   | exact ih3 _ _ _ _ _ _ _ _ _ _ _
   | exact ih4 _ _ _ _ _ _ _ _ _ _
   | exact demand_Level.mono _ _ _ _ _
   | exact demand_Power.mono _ _ _
   | exact demand_Step.mono _ _ _ _ _ _
   | exact plenumlaw56_awake.mono _
   | exact plenumlaw56_ours.mono _ _
   | exact plenumlaw56_theirs.mono _ _
   | exact plenumref56_Check.mono _ _
   | exact plenumref56_Level.mono _ _ _ _ _
   | exact plenumref56_Power.mono _ _ _
   | exact plenumref56_Ready.mono _ _ _ _
   | exact plenumref56_Same.mono _ _ _
   | exact plenumref56_Step.mono _ _ _ _ _ _
   | exact LeO.none _
   | refine LeO.ite ?_ ?_
   | refine LeO.bind ?_ (fun _ => ?_)
  ·intro y0 y1 y2 y3 y4 y5 y6 y7 y8 y9
   unfold plenumlaw56_DemandSteps.j4
   repeat' first
   | (with_reducible exact ih0 _ _ _ _ _ _)
   | (with_reducible exact ih1 _ _ _ _ _ _ _ _ _ _)
   | (with_reducible exact ih2 _ _ _ _ _ _ _ _ _ _ _)
   | (with_reducible exact ih3 _ _ _ _ _ _ _ _ _ _ _)
   | (with_reducible exact ih4 _ _ _ _ _ _ _ _ _ _)
   | (with_reducible exact demand_Level.mono _ _ _ _ _)
   | (with_reducible exact demand_Power.mono _ _ _)
   | (with_reducible exact demand_Step.mono _ _ _ _ _ _)
   | (with_reducible exact plenumlaw56_awake.mono _)
   | (with_reducible exact plenumlaw56_ours.mono _ _)
   | (with_reducible exact plenumlaw56_theirs.mono _ _)
   | (with_reducible exact plenumref56_Check.mono _ _)
   | (with_reducible exact plenumref56_Level.mono _ _ _ _ _)
   | (with_reducible exact plenumref56_Power.mono _ _ _)
   | (with_reducible exact plenumref56_Ready.mono _ _ _ _)
   | (with_reducible exact plenumref56_Same.mono _ _ _)
   | (with_reducible exact plenumref56_Step.mono _ _ _ _ _ _)
   | (with_reducible exact LeO.refl _)
   | (with_reducible exact LeO.none _)
   | (with_reducible refine LeO.ite ?_ ?_)
   | (with_reducible refine LeO.bind ?_ (fun _ => ?_))
   | exact ih0 _ _ _ _ _ _
   | exact ih1 _ _ _ _ _ _ _ _ _ _
   | exact ih2 _ _ _ _ _ _ _ _ _ _ _
   | exact ih3 _ _ _ _ _ _ _ _ _ _ _
   | exact ih4 _ _ _ _ _ _ _ _ _ _
   | exact demand_Level.mono _ _ _ _ _
   | exact demand_Power.mono _ _ _
   | exact demand_Step.mono _ _ _ _ _ _
   | exact plenumlaw56_awake.mono _
   | exact plenumlaw56_ours.mono _ _
   | exact plenumlaw56_theirs.mono _ _
   | exact plenumref56_Check.mono _ _
   | exact plenumref56_Level.mono _ _ _ _ _
   | exact plenumref56_Power.mono _ _ _
   | exact plenumref56_Ready.mono _ _ _ _
   | exact plenumref56_Same.mono _ _ _
   | exact plenumref56_Step.mono _ _ _ _ _ _
   | exact LeO.none _
   | refine LeO.ite ?_ ?_
   | refine LeO.bind ?_ (fun _ => ?_)
theorem plenumlaw56_DemandSteps.mono : ∀ a0 a1 a2 a3 a4 k,LeO (plenumlaw56_DemandSteps.f k a0 a1 a2 a3 a4) (plenumlaw56_DemandSteps.f (k + 1) a0 a1 a2 a3 a4) := by
 intro a0 a1 a2 a3 a4 k
 obtain ⟨ih0,ih1,ih2,ih3,ih4⟩ := plenumlaw56_DemandSteps.mono_l k
 unfold plenumlaw56_DemandSteps.f
 repeat' first
   | (with_reducible exact ih0 _ _ _ _ _ _)
   | (with_reducible exact ih1 _ _ _ _ _ _ _ _ _ _)
   | (with_reducible exact ih2 _ _ _ _ _ _ _ _ _ _ _)
   | (with_reducible exact ih3 _ _ _ _ _ _ _ _ _ _ _)
   | (with_reducible exact ih4 _ _ _ _ _ _ _ _ _ _)
   | (with_reducible exact demand_Level.mono _ _ _ _ _)
   | (with_reducible exact demand_Power.mono _ _ _)
   | (with_reducible exact demand_Step.mono _ _ _ _ _ _)
   | (with_reducible exact plenumlaw56_awake.mono _)
   | (with_reducible exact plenumlaw56_ours.mono _ _)
   | (with_reducible exact plenumlaw56_theirs.mono _ _)
   | (with_reducible exact plenumref56_Check.mono _ _)
   | (with_reducible exact plenumref56_Level.mono _ _ _ _ _)
   | (with_reducible exact plenumref56_Power.mono _ _ _)
   | (with_reducible exact plenumref56_Ready.mono _ _ _ _)
   | (with_reducible exact plenumref56_Same.mono _ _ _)
   | (with_reducible exact plenumref56_Step.mono _ _ _ _ _ _)
   | (with_reducible exact LeO.refl _)
   | (with_reducible exact LeO.none _)
   | (with_reducible refine LeO.ite ?_ ?_)
   | (with_reducible refine LeO.bind ?_ (fun _ => ?_))
   | exact ih0 _ _ _ _ _ _
   | exact ih1 _ _ _ _ _ _ _ _ _ _
   | exact ih2 _ _ _ _ _ _ _ _ _ _ _
   | exact ih3 _ _ _ _ _ _ _ _ _ _ _
   | exact ih4 _ _ _ _ _ _ _ _ _ _
   | exact demand_Level.mono _ _ _ _ _
   | exact demand_Power.mono _ _ _
   | exact demand_Step.mono _ _ _ _ _ _
   | exact plenumlaw56_awake.mono _
   | exact plenumlaw56_ours.mono _ _
   | exact plenumlaw56_theirs.mono _ _
   | exact plenumref56_Check.mono _ _
   | exact plenumref56_Level.mono _ _ _ _ _
   | exact plenumref56_Power.mono _ _ _
   | exact plenumref56_Ready.mono _ _ _ _
   | exact plenumref56_Same.mono _ _ _
   | exact plenumref56_Step.mono _ _ _ _ _ _
   | exact LeO.none _
   | refine LeO.ite ?_ ?_
   | refine LeO.bind ?_ (fun _ => ?_)
set_option maxHeartbeats 100000000 in
set_option maxRecDepth 100000 in
theorem plenumlaw56_DemandSteps.calls (k : Nat) (A0 : Option Addr) (c0 : Nat) (l0 : List (S43)) (A1 : Option Addr) (c1 : Nat) (l1 : List (S59)) (a2 : Int) (a3 : Int) (a4 : Int) (r : Bool) (w : World) (hr0 : Kd.C k43 w A0 l0.length l0) (hc0 : l0.length ≤ c0) (hr1 : Kd.C k59 w A1 l1.length l1) (hc1 : l1.length ≤ c1) (h : plenumlaw56_DemandSteps.f k l0 l1 a2 a3 a4 = some r) :
  Calls Try.prog 3 #[.slice A0 l0.length c0,.slice A1 l1.length c1,.int .i64 a2,.int .i64 a3,.int .i64 a4] w fun e w' => e = .returned (.bool r) ∧ Below w.heap.size w w' := by
 have HR0 := Yd hr0
 have HC0 := Yd hc0
 clear hr0 hc0
 have HR1 := Yd hr1
 have HC1 := Yd hc1
 clear hr1 hc1
 have HB := Yd (Below.refl w.heap.size w)
 have H : (if (l0.length : Int) > 70 then (plenumlaw56_DemandSteps.j0 k l0 l1 a2 a3 a4 true) else (plenumlaw56_DemandSteps.j0 k l0 l1 a2 a3 a4 (decide ((l1.length : Int) > 70)))) = some r := h
 clear h
 have HC6 := Yd H
 clear H
 go_enter Try.func3,Try.ntmps3
 go_upto_region 1 with (fail)
 go_cut [28] (fun v28 wc => ∃ (kq : Nat) (x28_5 : Bool),v28 = .bool x28_5 ∧ Aside0 (plenumlaw56_DemandSteps.j0 kq l0 l1 a2 a3 a4 x28_5 = some r) ∧ Aside0 (kq ≤ k) ∧ Aside0 (Below w.heap.size w wc))
 case first =>
  have H := HC6.out
  clear HC6
  by_cases c7 : (l0.length : Int) > 70
  ·rw [if_pos c7] at H
   have c7b0 : decide (70 < (l0.length : Int)) = true := decide_eq_true c7
   have c7b1 : decide (70 < l0.length) = true := decide_eq_true (by omega)
   clear c7
   (first | rw [c7b0] | (simp only [i64_w,i32_w];rw [c7b0]) | skip)
   have H' := Yd H
   clear H
   go_wp2
   go_meet
   case rel => exact ⟨_,(true),Y12,H',⟨by first | omega | exact Nat.le_refl _⟩,⟨Y3 HB.out⟩⟩
  ·rw [if_neg c7] at H
   have c7b0 : decide (70 < (l0.length : Int)) = false := decide_eq_false c7
   have c7b1 : decide (70 < l0.length) = false := decide_eq_false (by omega)
   clear c7
   (first | rw [c7b0] | (simp only [i64_w,i32_w];rw [c7b0]) | skip)
   have H' := Yd H
   clear H
   go_wp2
   go_meet
   case rel => exact ⟨_,(decide ((l1.length : Int) > 70)),Y12,H',⟨by first | omega | exact Nat.le_refl _⟩,⟨Y3 HB.out⟩⟩
 case rest => as_aux_lemma =>
  clear HC6
  try clear c1
  try clear p2
  try clear c3
  try clear c7
  try clear c7b0
  try clear c7b1
  obtain ⟨kq,x28_5,rfl,HA,HJ5,HB⟩ := hcut
  cases kq with
  | zero => exact absurd HA.out (by simp [plenumlaw56_DemandSteps.j0])
  | succ kj5 =>
   have H := HA.out
   clear HA
   simp only [plenumlaw56_DemandSteps.j0] at H
   by_cases c8 : x28_5 = true
   ·subst c8
    have H1 : ((plenumlaw56_awake.f kj5).bind fun t393 => (some t393)) = some r := by rw [if_pos rfl] at H;exact H
    clear H
    have H := H1
    clear H1
    replace H := Option.bind_eq_some_iff.mp H
    obtain ⟨t393,A90,H⟩ := H
    replace H : (some t393) = some r := H
    have A9 := Yd A90
    clear A90
    obtain rfl := Option.some.inj H
    go_wp2_with (first | ((with_reducible refine gate_callee (f := 4) rfl ?_);refine goesL_ (some 29) rfl rfl Try.func4 (by kernel_rfl) rfl #[] rfl Y8 ?_;(with_reducible refine (plenumlaw56_awake.calls kj5  t393 _ A9.out).mono ?_);rintro e w10 ⟨rfl,hb⟩;refine ⟨_,rfl,?_⟩;have n0_ := Yd (below_step (Y3 HB.out) hb);clear HB;have HB := n0_;clear n0_;(try clear hb);(try clear hb2);(try clear hk);(try clear hi)))
    go_ret
    exact ⟨by first | rfl | (simp [errW_none,errW_some] <;> rfl) | (simp [*,errW_none,errW_some] <;> rfl),Y3 HB.out⟩
   ·replace c8 := Bool.eq_false_iff.mpr c8
    subst c8
    have H1 : ((plenumlaw56_ours.f kj5 l1).bind fun t394 => ((demand_Step.f kj5 l0 t394 a2 a3 a4).bind fun bt397 => ((plenumlaw56_ours.f kj5 l1).bind fun t401 => ((demand_Power.f kj5 l0 t401).bind fun bt404 => ((plenumlaw56_ours.f kj5 l1).bind fun t406 => ((demand_Level.f kj5 l0 t406 a2 a4).bind fun bt409 => ((plenumref56_Check.f kj5 l0).bind fun t411 => (if t411 = 0 then (if (l1.length : Int) = (l0.length : Int) then (if bt404.2 = 0 then ((plenumref56_Power.f kj5 l0 l1).bind fun t413 => (plenumlaw56_DemandSteps.j1 kj5 l0 l1 a2 a3 a4 bt397.1 bt397.2 bt409.1 bt409.2 (bt404.1 != t413))) else (plenumlaw56_DemandSteps.j1 kj5 l0 l1 a2 a3 a4 bt397.1 bt397.2 bt409.1 bt409.2 true)) else (if bt404.2 = 1 then (if bt404.1 = 0 then (plenumlaw56_DemandSteps.j1 kj5 l0 l1 a2 a3 a4 bt397.1 bt397.2 bt409.1 bt409.2 false) else (plenumlaw56_DemandSteps.j1 kj5 l0 l1 a2 a3 a4 bt397.1 bt397.2 bt409.1 bt409.2 true)) else (plenumlaw56_DemandSteps.j1 kj5 l0 l1 a2 a3 a4 bt397.1 bt397.2 bt409.1 bt409.2 true))) else ((plenumlaw56_awake.f kj5).bind fun t412 => (if t412 = true then (if bt397.2 = t411 then (if bt404.2 = t411 then (if bt409.2 = t411 then (if (bt397.1.length : Int) = 0 then (if bt404.1 = 0 then (some (bt409.1 == 0)) else (none)) else (none)) else (none)) else (none)) else (none)) else (none))))))))))) = some r := by rw [if_neg (show ¬ (false = true) by decide)] at H;exact H
    clear H
    have H := H1
    clear H1
    replace H := Option.bind_eq_some_iff.mp H
    obtain ⟨t394,A110,H⟩ := H
    replace H : ((demand_Step.f kj5 l0 t394 a2 a3 a4).bind fun bt397 => ((plenumlaw56_ours.f kj5 l1).bind fun t401 => ((demand_Power.f kj5 l0 t401).bind fun bt404 => ((plenumlaw56_ours.f kj5 l1).bind fun t406 => ((demand_Level.f kj5 l0 t406 a2 a4).bind fun bt409 => ((plenumref56_Check.f kj5 l0).bind fun t411 => (if t411 = 0 then (if (l1.length : Int) = (l0.length : Int) then (if bt404.2 = 0 then ((plenumref56_Power.f kj5 l0 l1).bind fun t413 => (plenumlaw56_DemandSteps.j1 kj5 l0 l1 a2 a3 a4 bt397.1 bt397.2 bt409.1 bt409.2 (bt404.1 != t413))) else (plenumlaw56_DemandSteps.j1 kj5 l0 l1 a2 a3 a4 bt397.1 bt397.2 bt409.1 bt409.2 true)) else (if bt404.2 = 1 then (if bt404.1 = 0 then (plenumlaw56_DemandSteps.j1 kj5 l0 l1 a2 a3 a4 bt397.1 bt397.2 bt409.1 bt409.2 false) else (plenumlaw56_DemandSteps.j1 kj5 l0 l1 a2 a3 a4 bt397.1 bt397.2 bt409.1 bt409.2 true)) else (plenumlaw56_DemandSteps.j1 kj5 l0 l1 a2 a3 a4 bt397.1 bt397.2 bt409.1 bt409.2 true))) else ((plenumlaw56_awake.f kj5).bind fun t412 => (if t412 = true then (if bt397.2 = t411 then (if bt404.2 = t411 then (if bt409.2 = t411 then (if (bt397.1.length : Int) = 0 then (if bt404.1 = 0 then (some (bt409.1 == 0)) else (none)) else (none)) else (none)) else (none)) else (none)) else (none)))))))))) = some r := H
    have A11 := Yd A110
    clear A110
    replace H := Option.bind_eq_some_iff.mp H
    obtain ⟨⟨t397,t398⟩,A120,H⟩ := H
    replace H : ((plenumlaw56_ours.f kj5 l1).bind fun t401 => ((demand_Power.f kj5 l0 t401).bind fun bt404 => ((plenumlaw56_ours.f kj5 l1).bind fun t406 => ((demand_Level.f kj5 l0 t406 a2 a4).bind fun bt409 => ((plenumref56_Check.f kj5 l0).bind fun t411 => (if t411 = 0 then (if (l1.length : Int) = (l0.length : Int) then (if bt404.2 = 0 then ((plenumref56_Power.f kj5 l0 l1).bind fun t413 => (plenumlaw56_DemandSteps.j1 kj5 l0 l1 a2 a3 a4 t397 t398 bt409.1 bt409.2 (bt404.1 != t413))) else (plenumlaw56_DemandSteps.j1 kj5 l0 l1 a2 a3 a4 t397 t398 bt409.1 bt409.2 true)) else (if bt404.2 = 1 then (if bt404.1 = 0 then (plenumlaw56_DemandSteps.j1 kj5 l0 l1 a2 a3 a4 t397 t398 bt409.1 bt409.2 false) else (plenumlaw56_DemandSteps.j1 kj5 l0 l1 a2 a3 a4 t397 t398 bt409.1 bt409.2 true)) else (plenumlaw56_DemandSteps.j1 kj5 l0 l1 a2 a3 a4 t397 t398 bt409.1 bt409.2 true))) else ((plenumlaw56_awake.f kj5).bind fun t412 => (if t412 = true then (if t398 = t411 then (if bt404.2 = t411 then (if bt409.2 = t411 then (if (t397.length : Int) = 0 then (if bt404.1 = 0 then (some (bt409.1 == 0)) else (none)) else (none)) else (none)) else (none)) else (none)) else (none))))))))) = some r := H
    have A12 := Yd A120
    clear A120
    replace H := Option.bind_eq_some_iff.mp H
    obtain ⟨t401,A130,H⟩ := H
    replace H : ((demand_Power.f kj5 l0 t401).bind fun bt404 => ((plenumlaw56_ours.f kj5 l1).bind fun t406 => ((demand_Level.f kj5 l0 t406 a2 a4).bind fun bt409 => ((plenumref56_Check.f kj5 l0).bind fun t411 => (if t411 = 0 then (if (l1.length : Int) = (l0.length : Int) then (if bt404.2 = 0 then ((plenumref56_Power.f kj5 l0 l1).bind fun t413 => (plenumlaw56_DemandSteps.j1 kj5 l0 l1 a2 a3 a4 t397 t398 bt409.1 bt409.2 (bt404.1 != t413))) else (plenumlaw56_DemandSteps.j1 kj5 l0 l1 a2 a3 a4 t397 t398 bt409.1 bt409.2 true)) else (if bt404.2 = 1 then (if bt404.1 = 0 then (plenumlaw56_DemandSteps.j1 kj5 l0 l1 a2 a3 a4 t397 t398 bt409.1 bt409.2 false) else (plenumlaw56_DemandSteps.j1 kj5 l0 l1 a2 a3 a4 t397 t398 bt409.1 bt409.2 true)) else (plenumlaw56_DemandSteps.j1 kj5 l0 l1 a2 a3 a4 t397 t398 bt409.1 bt409.2 true))) else ((plenumlaw56_awake.f kj5).bind fun t412 => (if t412 = true then (if t398 = t411 then (if bt404.2 = t411 then (if bt409.2 = t411 then (if (t397.length : Int) = 0 then (if bt404.1 = 0 then (some (bt409.1 == 0)) else (none)) else (none)) else (none)) else (none)) else (none)) else (none)))))))) = some r := H
    have A13 := Yd A130
    clear A130
    replace H := Option.bind_eq_some_iff.mp H
    obtain ⟨⟨t404,t405⟩,A140,H⟩ := H
    replace H : ((plenumlaw56_ours.f kj5 l1).bind fun t406 => ((demand_Level.f kj5 l0 t406 a2 a4).bind fun bt409 => ((plenumref56_Check.f kj5 l0).bind fun t411 => (if t411 = 0 then (if (l1.length : Int) = (l0.length : Int) then (if t405 = 0 then ((plenumref56_Power.f kj5 l0 l1).bind fun t413 => (plenumlaw56_DemandSteps.j1 kj5 l0 l1 a2 a3 a4 t397 t398 bt409.1 bt409.2 (t404 != t413))) else (plenumlaw56_DemandSteps.j1 kj5 l0 l1 a2 a3 a4 t397 t398 bt409.1 bt409.2 true)) else (if t405 = 1 then (if t404 = 0 then (plenumlaw56_DemandSteps.j1 kj5 l0 l1 a2 a3 a4 t397 t398 bt409.1 bt409.2 false) else (plenumlaw56_DemandSteps.j1 kj5 l0 l1 a2 a3 a4 t397 t398 bt409.1 bt409.2 true)) else (plenumlaw56_DemandSteps.j1 kj5 l0 l1 a2 a3 a4 t397 t398 bt409.1 bt409.2 true))) else ((plenumlaw56_awake.f kj5).bind fun t412 => (if t412 = true then (if t398 = t411 then (if t405 = t411 then (if bt409.2 = t411 then (if (t397.length : Int) = 0 then (if t404 = 0 then (some (bt409.1 == 0)) else (none)) else (none)) else (none)) else (none)) else (none)) else (none))))))) = some r := H
    have A14 := Yd A140
    clear A140
    replace H := Option.bind_eq_some_iff.mp H
    obtain ⟨t406,A150,H⟩ := H
    replace H : ((demand_Level.f kj5 l0 t406 a2 a4).bind fun bt409 => ((plenumref56_Check.f kj5 l0).bind fun t411 => (if t411 = 0 then (if (l1.length : Int) = (l0.length : Int) then (if t405 = 0 then ((plenumref56_Power.f kj5 l0 l1).bind fun t413 => (plenumlaw56_DemandSteps.j1 kj5 l0 l1 a2 a3 a4 t397 t398 bt409.1 bt409.2 (t404 != t413))) else (plenumlaw56_DemandSteps.j1 kj5 l0 l1 a2 a3 a4 t397 t398 bt409.1 bt409.2 true)) else (if t405 = 1 then (if t404 = 0 then (plenumlaw56_DemandSteps.j1 kj5 l0 l1 a2 a3 a4 t397 t398 bt409.1 bt409.2 false) else (plenumlaw56_DemandSteps.j1 kj5 l0 l1 a2 a3 a4 t397 t398 bt409.1 bt409.2 true)) else (plenumlaw56_DemandSteps.j1 kj5 l0 l1 a2 a3 a4 t397 t398 bt409.1 bt409.2 true))) else ((plenumlaw56_awake.f kj5).bind fun t412 => (if t412 = true then (if t398 = t411 then (if t405 = t411 then (if bt409.2 = t411 then (if (t397.length : Int) = 0 then (if t404 = 0 then (some (bt409.1 == 0)) else (none)) else (none)) else (none)) else (none)) else (none)) else (none)))))) = some r := H
    have A15 := Yd A150
    clear A150
    replace H := Option.bind_eq_some_iff.mp H
    obtain ⟨⟨t409,t410⟩,A160,H⟩ := H
    replace H : ((plenumref56_Check.f kj5 l0).bind fun t411 => (if t411 = 0 then (if (l1.length : Int) = (l0.length : Int) then (if t405 = 0 then ((plenumref56_Power.f kj5 l0 l1).bind fun t413 => (plenumlaw56_DemandSteps.j1 kj5 l0 l1 a2 a3 a4 t397 t398 t409 t410 (t404 != t413))) else (plenumlaw56_DemandSteps.j1 kj5 l0 l1 a2 a3 a4 t397 t398 t409 t410 true)) else (if t405 = 1 then (if t404 = 0 then (plenumlaw56_DemandSteps.j1 kj5 l0 l1 a2 a3 a4 t397 t398 t409 t410 false) else (plenumlaw56_DemandSteps.j1 kj5 l0 l1 a2 a3 a4 t397 t398 t409 t410 true)) else (plenumlaw56_DemandSteps.j1 kj5 l0 l1 a2 a3 a4 t397 t398 t409 t410 true))) else ((plenumlaw56_awake.f kj5).bind fun t412 => (if t412 = true then (if t398 = t411 then (if t405 = t411 then (if t410 = t411 then (if (t397.length : Int) = 0 then (if t404 = 0 then (some (t409 == 0)) else (none)) else (none)) else (none)) else (none)) else (none)) else (none))))) = some r := H
    have A16 := Yd A160
    clear A160
    replace H := Option.bind_eq_some_iff.mp H
    obtain ⟨t411,A170,H⟩ := H
    replace H : (if t411 = 0 then (if (l1.length : Int) = (l0.length : Int) then (if t405 = 0 then ((plenumref56_Power.f kj5 l0 l1).bind fun t413 => (plenumlaw56_DemandSteps.j1 kj5 l0 l1 a2 a3 a4 t397 t398 t409 t410 (t404 != t413))) else (plenumlaw56_DemandSteps.j1 kj5 l0 l1 a2 a3 a4 t397 t398 t409 t410 true)) else (if t405 = 1 then (if t404 = 0 then (plenumlaw56_DemandSteps.j1 kj5 l0 l1 a2 a3 a4 t397 t398 t409 t410 false) else (plenumlaw56_DemandSteps.j1 kj5 l0 l1 a2 a3 a4 t397 t398 t409 t410 true)) else (plenumlaw56_DemandSteps.j1 kj5 l0 l1 a2 a3 a4 t397 t398 t409 t410 true))) else ((plenumlaw56_awake.f kj5).bind fun t412 => (if t412 = true then (if t398 = t411 then (if t405 = t411 then (if t410 = t411 then (if (t397.length : Int) = 0 then (if t404 = 0 then (some (t409 == 0)) else (none)) else (none)) else (none)) else (none)) else (none)) else (none)))) = some r := H
    have A17 := Yd A170
    clear A170
    by_cases c18 : t411 = 0
    ·rw [if_pos c18] at H
     have c18b0 : (t411 == 0) = true := beq_iff_eq.mpr c18
     have c18b1 : (t411 != 0) = false := bne_eq_false_iff_eq.mpr c18
     clear c18
     have HC19 := Yd H
     clear H
     go_upto_region 9 with (first | ((with_reducible refine gate_callee (f := 6) rfl ?_);refine goesL_ (some 33) rfl rfl Try.func6 (by kernel_rfl) rfl #[.slice A1 l1.length c1] rfl Y8 ?_;(with_reducible refine (plenumlaw56_ours.calls kj5 _ _ l1 t394 _ ?side1 ?side2 A11.out).mono ?_);(case side1 => exact Y11 (Kd.C_below HR1.out HB.out));(case side2 => exact HC1.out);rintro e w20 ⟨v395,rfl,ho0,hb⟩;refine ⟨_,rfl,?_⟩;have n0_ := Yd (Kd.R_lower ho0 (below_size (Y3 HB.out)));have n1_ := Yd (below_step (Y3 HB.out) hb);clear HB;have HO396 := n0_;have HB := n1_;clear n0_ n1_;(try clear hb);(try clear hb2);(try clear hk);(try clear hi);(try clear ho0);obtain ⟨Ao21,co21,eo21⟩ := Kd.R_slice HO396.out;subst eo21) | ((with_reducible refine gate_callee (f := 5) rfl ?_);refine goesL_ (some 37) rfl rfl Try.func5 (by kernel_rfl) rfl #[.slice A0 l0.length c0,.slice Ao21 t394.length co21,.int .i64 a2,.int .i64 a3,.int .i64 a4] rfl Y8 ?_;(with_reducible refine (demand_Step.calls kj5 _ _ l0 _ _ t394 a2 a3 a4 t397 t398 _ ?side1 ?side2 ?side3 ?side4 A12.out).mono ?_);(case side1 => exact Y11 (Kd.C_below HR0.out HB.out));(case side2 => exact HC0.out);(case side3 => repeat (first | exact (Kd.R_reads' HO396.out).2.2 | (with_reducible refine Kd.C_alloc ?_ _) | (with_reducible refine Kd.C_drewN ?_ _) | (with_reducible refine Kd.C_drew ?_)));(case side4 => exact (Kd.R_reads' HO396.out).2.1);rintro e w22 ⟨v399,rfl,ho0,hb⟩;refine ⟨_,rfl,?_⟩;have n0_ := Yd (Kd.R_elder' (Y5 HO396.out) (Kd.R_base ho0) hb);have n1_ := Yd (Kd.R_lower (Kd.R_new' ho0 (Kd.R_lt (Y5 HO396.out))) (below_size (Y3 HB.out)));have n2_ := Yd (below_step (Y3 HB.out) hb);clear HO396;clear HB;have HO396 := n0_;have HO400 := n1_;have HB := n2_;clear n0_ n1_ n2_;(try clear hb);(try clear hb2);(try clear hk);(try clear hi);(try clear ho0)) | ((with_reducible refine gate_callee (f := 6) rfl ?_);refine goesL_ (some 43) rfl rfl Try.func6 (by kernel_rfl) rfl #[.slice A1 l1.length c1] rfl Y8 ?_;(with_reducible refine (plenumlaw56_ours.calls kj5 _ _ l1 t401 _ ?side1 ?side2 A13.out).mono ?_);(case side1 => exact Y11 (Kd.C_below HR1.out HB.out));(case side2 => exact HC1.out);rintro e w23 ⟨v402,rfl,ho0,hb⟩;refine ⟨_,rfl,?_⟩;have n0_ := Yd (Kd.R_elder' (Y5 HO396.out) (Kd.R_base ho0) hb);have n1_ := Yd (Kd.R_elder' (Y5 HO400.out) (Kd.R_base ho0) hb);have n2_ := Yd (Kd.R_lower (Kd.R_new' (Kd.R_new' ho0 (Kd.R_lt (Y5 HO396.out))) (Kd.R_lt (Y5 HO400.out))) (below_size (Y3 HB.out)));have n3_ := Yd (below_step (Y3 HB.out) hb);clear HO396;clear HO400;clear HB;have HO396 := n0_;have HO400 := n1_;have HO403 := n2_;have HB := n3_;clear n0_ n1_ n2_ n3_;(try clear hb);(try clear hb2);(try clear hk);(try clear hi);(try clear ho0);obtain ⟨Ao24,co24,eo24⟩ := Kd.R_slice HO403.out;subst eo24) | ((with_reducible refine gate_callee (f := 7) rfl ?_);refine goesL_ (some 44) rfl rfl Try.func7 (by kernel_rfl) rfl #[.slice A0 l0.length c0,.slice Ao24 t401.length co24] rfl Y8 ?_;(with_reducible refine (demand_Power.calls kj5 _ _ l0 _ _ t401 t404 t405 _ ?side1 ?side2 ?side3 ?side4 A14.out).mono ?_);(case side1 => exact Y11 (Kd.C_below HR0.out HB.out));(case side2 => exact HC0.out);(case side3 => repeat (first | exact (Kd.R_reads' HO403.out).2.2 | (with_reducible refine Kd.C_alloc ?_ _) | (with_reducible refine Kd.C_drewN ?_ _) | (with_reducible refine Kd.C_drew ?_)));(case side4 => exact (Kd.R_reads' HO403.out).2.1);rintro e w25 ⟨rfl,hb⟩;refine ⟨_,rfl,?_⟩;have n0_ := Yd (Kd.R_below (Y5 HO396.out) hb);have n1_ := Yd (Kd.R_below (Y5 HO400.out) hb);have n2_ := Yd (Kd.R_below (Y5 HO403.out) hb);have n3_ := Yd (below_step (Y3 HB.out) hb);clear HO396;clear HO400;clear HO403;clear HB;have HO396 := n0_;have HO400 := n1_;have HO403 := n2_;have HB := n3_;clear n0_ n1_ n2_ n3_;(try clear hb);(try clear hb2);(try clear hk);(try clear hi)) | ((with_reducible refine gate_callee (f := 6) rfl ?_);refine goesL_ (some 50) rfl rfl Try.func6 (by kernel_rfl) rfl #[.slice A1 l1.length c1] rfl Y8 ?_;(with_reducible refine (plenumlaw56_ours.calls kj5 _ _ l1 t406 _ ?side1 ?side2 A15.out).mono ?_);(case side1 => exact Y11 (Kd.C_below HR1.out HB.out));(case side2 => exact HC1.out);rintro e w26 ⟨v407,rfl,ho0,hb⟩;refine ⟨_,rfl,?_⟩;have n0_ := Yd (Kd.R_elder' (Y5 HO396.out) (Kd.R_base ho0) hb);have n1_ := Yd (Kd.R_elder' (Y5 HO400.out) (Kd.R_base ho0) hb);have n2_ := Yd (Kd.R_elder' (Y5 HO403.out) (Kd.R_base ho0) hb);have n3_ := Yd (Kd.R_lower (Kd.R_new' (Kd.R_new' (Kd.R_new' ho0 (Kd.R_lt (Y5 HO396.out))) (Kd.R_lt (Y5 HO400.out))) (Kd.R_lt (Y5 HO403.out))) (below_size (Y3 HB.out)));have n4_ := Yd (below_step (Y3 HB.out) hb);clear HO396;clear HO400;clear HO403;clear HB;have HO396 := n0_;have HO400 := n1_;have HO403 := n2_;have HO408 := n3_;have HB := n4_;clear n0_ n1_ n2_ n3_ n4_;(try clear hb);(try clear hb2);(try clear hk);(try clear hi);(try clear ho0);obtain ⟨Ao27,co27,eo27⟩ := Kd.R_slice HO408.out;subst eo27) | ((with_reducible refine gate_callee (f := 8) rfl ?_);refine goesL_ (some 53) rfl rfl Try.func8 (by kernel_rfl) rfl #[.slice A0 l0.length c0,.slice Ao27 t406.length co27,.int .i64 a2,.int .i64 a4] rfl Y8 ?_;(with_reducible refine (demand_Level.calls kj5 _ _ l0 _ _ t406 a2 a4 t409 t410 _ ?side1 ?side2 ?side3 ?side4 A16.out).mono ?_);(case side1 => exact Y11 (Kd.C_below HR0.out HB.out));(case side2 => exact HC0.out);(case side3 => repeat (first | exact (Kd.R_reads' HO408.out).2.2 | (with_reducible refine Kd.C_alloc ?_ _) | (with_reducible refine Kd.C_drewN ?_ _) | (with_reducible refine Kd.C_drew ?_)));(case side4 => exact (Kd.R_reads' HO408.out).2.1);rintro e w28 ⟨rfl,hb⟩;refine ⟨_,rfl,?_⟩;have n0_ := Yd (Kd.R_below (Y5 HO396.out) hb);have n1_ := Yd (Kd.R_below (Y5 HO400.out) hb);have n2_ := Yd (Kd.R_below (Y5 HO403.out) hb);have n3_ := Yd (Kd.R_below (Y5 HO408.out) hb);have n4_ := Yd (below_step (Y3 HB.out) hb);clear HO396;clear HO400;clear HO403;clear HO408;clear HB;have HO396 := n0_;have HO400 := n1_;have HO403 := n2_;have HO408 := n3_;have HB := n4_;clear n0_ n1_ n2_ n3_ n4_;(try clear hb);(try clear hb2);(try clear hk);(try clear hi)) | ((with_reducible refine gate_callee (f := 9) rfl ?_);refine goesL_ (some 57) rfl rfl Try.func9 (by kernel_rfl) rfl #[.slice A0 l0.length c0] rfl Y8 ?_;(with_reducible refine (plenumref56_Check.calls kj5 _ _ l0 t411 _ ?side1 ?side2 A17.out).mono ?_);(case side1 => exact Y11 (Kd.C_below HR0.out HB.out));(case side2 => exact HC0.out);rintro e w29 ⟨rfl,hb⟩;refine ⟨_,rfl,?_⟩;have n0_ := Yd (Kd.R_below (Y5 HO396.out) hb);have n1_ := Yd (Kd.R_below (Y5 HO400.out) hb);have n2_ := Yd (Kd.R_below (Y5 HO403.out) hb);have n3_ := Yd (Kd.R_below (Y5 HO408.out) hb);have n4_ := Yd (below_step (Y3 HB.out) hb);clear HO396;clear HO400;clear HO403;clear HO408;clear HB;have HO396 := n0_;have HO400 := n1_;have HO403 := n2_;have HO408 := n3_;have HB := n4_;clear n0_ n1_ n2_ n3_ n4_;(try clear hb);(try clear hb2);(try clear hk);(try clear hi)))
     (try simp only [Act.put,List.setIfInBounds_toArray,List.set_cons_zero,List.set_cons_succ])
     go_cut [119] (fun v119 wc => ∃ (kq : Nat) (x119_18 : Bool),v119 = .bool x119_18 ∧ Aside0 (plenumlaw56_DemandSteps.j1 kq l0 l1 a2 a3 a4 t397 t398 t409 t410 x119_18 = some r) ∧ Aside0 (kq ≤ kj5) ∧ Aside0 (Kd.R k51 51 wc w.heap.size (fun _ => True) v399 t397) ∧ Aside0 (Below w.heap.size w wc))
     case first =>
      have H := HC19.out
      clear HC19
      by_cases c30 : (l1.length : Int) = (l0.length : Int)
      ·rw [if_pos c30] at H
       have c30b0 : ((l1.length : Int) == (l0.length : Int)) = true := beq_iff_eq.mpr c30
       have c30b1 : ((l1.length : Int) != (l0.length : Int)) = false := bne_eq_false_iff_eq.mpr c30
       have c30b2 : (l1.length == l0.length) = true := by first | simpa using c30 | (simp at c30 ⊢;omega)
       clear c30
       (first | rw [c30b0] | (simp only [i64_w,i32_w];rw [c30b0]) | skip)
       by_cases c31 : t405 = 0
       ·rw [if_pos c31] at H
        have c31b0 : (t405 == 0) = true := beq_iff_eq.mpr c31
        have c31b1 : (t405 != 0) = false := bne_eq_false_iff_eq.mpr c31
        clear c31
        replace H := Option.bind_eq_some_iff.mp H
        obtain ⟨t413,A320,H⟩ := H
        replace H : (plenumlaw56_DemandSteps.j1 kj5 l0 l1 a2 a3 a4 t397 t398 t409 t410 (t404 != t413)) = some r := H
        have A32 := Yd A320
        clear A320
        have H' := Yd H
        clear H
        go_wp2_with (first | (go_at_call 10;(with_reducible refine (plenumref56_Power.calls kj5 _ _ l0 _ _ l1 t413 _ ?side1 ?side2 ?side3 ?side4 A32.out).mono ?_);(case side1 => exact Y11 (Kd.C_below HR0.out HB.out));(case side2 => exact HC0.out);(case side3 => exact Y11 (Kd.C_below HR1.out HB.out));(case side4 => exact HC1.out);rintro e w' ⟨rfl,⟨nd,rfl⟩⟩))
        go_meet
        case rel => exact ⟨_,((t404 != t413)),Y12,H',⟨by have := HJ5.out;first | omega | exact Nat.le_refl _⟩,⟨by (with_reducible repeat (first | apply Kd.R_alloc | apply Kd.R_drewN | apply Kd.R_drew));exact Kd.R_mono HO400.out (fun _ hk => trivial)⟩,⟨Y3 HB.out⟩⟩
       ·rw [if_neg c31] at H
        have c31b0 : (t405 == 0) = false := beq_eq_false_iff_ne.mpr c31
        have c31b1 : (t405 != 0) = true := bne_iff_ne.mpr c31
        have H' := Yd H
        clear H
        go_wp2
        go_meet
        case rel => exact ⟨_,(true),Y12,H',⟨by have := HJ5.out;first | omega | exact Nat.le_refl _⟩,⟨by (with_reducible repeat (first | apply Kd.R_alloc | apply Kd.R_drewN | apply Kd.R_drew));exact Kd.R_mono HO400.out (fun _ hk => trivial)⟩,⟨Y3 HB.out⟩⟩
      ·rw [if_neg c30] at H
       have c30b0 : ((l1.length : Int) == (l0.length : Int)) = false := beq_eq_false_iff_ne.mpr c30
       have c30b1 : ((l1.length : Int) != (l0.length : Int)) = true := bne_iff_ne.mpr c30
       have c30b2 : (l1.length == l0.length) = false := by first | simpa using c30 | (simp at c30 ⊢;omega)
       (first | rw [c30b0] | (simp only [i64_w,i32_w];rw [c30b0]) | skip)
       by_cases c33 : t405 = 1
       ·rw [if_pos c33] at H
        have c33b0 : (t405 == 1) = true := beq_iff_eq.mpr c33
        have c33b1 : (t405 != 1) = false := bne_eq_false_iff_eq.mpr c33
        clear c33
        by_cases c34 : t404 = 0
        ·rw [if_pos c34] at H
         have c34b0 : (t404 == 0) = true := beq_iff_eq.mpr c34
         have c34b1 : (t404 != 0) = false := bne_eq_false_iff_eq.mpr c34
         clear c34
         have H' := Yd H
         clear H
         go_wp2
         go_meet
         case rel => exact ⟨_,(false),Y12,H',⟨by have := HJ5.out;first | omega | exact Nat.le_refl _⟩,⟨by (with_reducible repeat (first | apply Kd.R_alloc | apply Kd.R_drewN | apply Kd.R_drew));exact Kd.R_mono HO400.out (fun _ hk => trivial)⟩,⟨Y3 HB.out⟩⟩
        ·rw [if_neg c34] at H
         have c34b0 : (t404 == 0) = false := beq_eq_false_iff_ne.mpr c34
         have c34b1 : (t404 != 0) = true := bne_iff_ne.mpr c34
         have H' := Yd H
         clear H
         go_wp2
         go_meet
         case rel => exact ⟨_,(true),Y12,H',⟨by have := HJ5.out;first | omega | exact Nat.le_refl _⟩,⟨by (with_reducible repeat (first | apply Kd.R_alloc | apply Kd.R_drewN | apply Kd.R_drew));exact Kd.R_mono HO400.out (fun _ hk => trivial)⟩,⟨Y3 HB.out⟩⟩
       ·rw [if_neg c33] at H
        have c33b0 : (t405 == 1) = false := beq_eq_false_iff_ne.mpr c33
        have c33b1 : (t405 != 1) = true := bne_iff_ne.mpr c33
        have H' := Yd H
        clear H
        go_wp2
        go_meet
        case rel => exact ⟨_,(true),Y12,H',⟨by have := HJ5.out;first | omega | exact Nat.le_refl _⟩,⟨by (with_reducible repeat (first | apply Kd.R_alloc | apply Kd.R_drewN | apply Kd.R_drew));exact Kd.R_mono HO400.out (fun _ hk => trivial)⟩,⟨Y3 HB.out⟩⟩
     case rest => as_aux_lemma =>
      clear HC19
      try clear c1
      try clear p2
      try clear c3
      try clear c4
      try clear c5
      try clear c6
      try clear c7
      try clear c7b0
      try clear c7b1
      try clear c8
      try clear c9
      try clear c18
      try clear c18b0
      try clear c18b1
      try clear c30
      try clear c30b0
      try clear c30b1
      try clear c30b2
      try clear c31
      try clear c31b0
      try clear c31b1
      try clear c33
      try clear c33b0
      try clear c33b1
      try clear c34
      try clear c34b0
      try clear c34b1
      try clear p2
      obtain ⟨kq,x119_18,rfl,HA,HJ18,HO_11,HB⟩ := hcut
      cases kq with
      | zero => exact absurd HA.out (by simp [plenumlaw56_DemandSteps.j1])
      | succ kj18 =>
       have H := HA.out
       clear HA
       simp only [plenumlaw56_DemandSteps.j1] at H
       by_cases c35 : x119_18 = true
       ·subst c35
        have H1 : (none) = some r := by rw [if_pos rfl] at H;exact H
        clear H
        have H := H1
        clear H1
        exact absurd H (by simp)
       ·replace c35 := Bool.eq_false_iff.mpr c35
        subst c35
        have H1 : ((plenumref56_Ready.f kj18 l0 l1 a4).bind fun t414 => ((plenumlaw56_inside.f a2).bind fun t415 => (if t415 = true then (plenumlaw56_DemandSteps.j2 kj18 l0 l1 a2 a3 a4 t397 t398 t409 t410 t414 t414) else (plenumlaw56_DemandSteps.j2 kj18 l0 l1 a2 a3 a4 t397 t398 t409 t410 6 6)))) = some r := by rw [if_neg (show ¬ (false = true) by decide)] at H;exact H
        clear H
        have H := H1
        clear H1
        replace H := Option.bind_eq_some_iff.mp H
        obtain ⟨t414,A360,H⟩ := H
        replace H : ((plenumlaw56_inside.f a2).bind fun t415 => (if t415 = true then (plenumlaw56_DemandSteps.j2 kj18 l0 l1 a2 a3 a4 t397 t398 t409 t410 t414 t414) else (plenumlaw56_DemandSteps.j2 kj18 l0 l1 a2 a3 a4 t397 t398 t409 t410 6 6))) = some r := H
        have A36 := Yd A360
        clear A360
        replace H := Option.bind_eq_some_iff.mp H
        obtain ⟨t415,A370,H⟩ := H
        replace H : (if t415 = true then (plenumlaw56_DemandSteps.j2 kj18 l0 l1 a2 a3 a4 t397 t398 t409 t410 t414 t414) else (plenumlaw56_DemandSteps.j2 kj18 l0 l1 a2 a3 a4 t397 t398 t409 t410 6 6)) = some r := H
        have A37 := Yd A370
        clear A370
        have HC38 := Yd H
        clear H
        go_upto_if 128 with (first | ((with_reducible refine gate_callee (f := 11) rfl ?_);refine goesL_ (some 123) rfl rfl Try.func11 (by kernel_rfl) rfl #[.slice A0 l0.length c0,.slice A1 l1.length c1,.int .i64 a4] rfl Y8 ?_;(with_reducible refine (plenumref56_Ready.calls kj18 _ _ l0 _ _ l1 a4 t414 _ ?side1 ?side2 ?side3 ?side4 A36.out).mono ?_);(case side1 => exact Y11 (Kd.C_below HR0.out HB.out));(case side2 => exact HC0.out);(case side3 => exact Y11 (Kd.C_below HR1.out HB.out));(case side4 => exact HC1.out);rintro e w' ⟨rfl,⟨nd,rfl⟩⟩;refine ⟨_,rfl,?_⟩) | ((with_reducible refine gate_callee (f := 12) rfl ?_);refine goesL_ (some 127) rfl rfl Try.func12 (by kernel_rfl) rfl #[.int .i64 a2] rfl Y8 ?_;(with_reducible refine (plenumlaw56_inside.calls a2 t415 _ A37.out).mono ?_);rintro e w' ⟨rfl,⟨nd,rfl⟩⟩;refine ⟨_,rfl,?_⟩))
        (try simp only [Act.put,List.setIfInBounds_toArray,List.set_cons_zero,List.set_cons_succ])
        go_cut [19,20] (fun v19 v20 wc => ∃ (kq : Nat) (x19_37 : Int) (x20_37 : Int),v19 = .int .i64 x19_37 ∧ v20 = .int .i64 x20_37 ∧ Aside0 (plenumlaw56_DemandSteps.j2 kq l0 l1 a2 a3 a4 t397 t398 t409 t410 x19_37 x20_37 = some r) ∧ Aside0 (kq ≤ kj18) ∧ Aside0 (Kd.R k51 51 wc w.heap.size (fun _ => True) v399 t397) ∧ Aside0 (Below w.heap.size w wc))
        case first =>
         have H := HC38.out
         clear HC38
         by_cases c39 : t415 = true
         ·subst c39
          have H1 : (plenumlaw56_DemandSteps.j2 kj18 l0 l1 a2 a3 a4 t397 t398 t409 t410 t414 t414) = some r := by rw [if_pos rfl] at H;exact H
          clear H
          have H := H1
          clear H1
          have H' := Yd H
          clear H
          go_wp2
          go_meet
          case rel => exact ⟨_,(t414),(t414),Y12,Y12,H',⟨by have := HJ5.out;have := HJ18.out;first | omega | exact Nat.le_refl _⟩,⟨Y5 HO_11.out⟩,⟨Y3 HB.out⟩⟩
         ·replace c39 := Bool.eq_false_iff.mpr c39
          subst c39
          have H1 : (plenumlaw56_DemandSteps.j2 kj18 l0 l1 a2 a3 a4 t397 t398 t409 t410 6 6) = some r := by rw [if_neg (show ¬ (false = true) by decide)] at H;exact H
          clear H
          have H := H1
          clear H1
          have H' := Yd H
          clear H
          go_wp2
          go_meet
          case rel => exact ⟨_,(6),(6),Y12,Y12,H',⟨by have := HJ5.out;have := HJ18.out;first | omega | exact Nat.le_refl _⟩,⟨Y5 HO_11.out⟩,⟨Y3 HB.out⟩⟩
        case rest => as_aux_lemma =>
         clear HC38
         try clear c1
         try clear p2
         try clear c3
         try clear c4
         try clear c5
         try clear c6
         try clear c7
         try clear c7b0
         try clear c7b1
         try clear c8
         try clear c9
         try clear c11
         try clear c12
         try clear c18
         try clear c18b0
         try clear c18b1
         try clear c30
         try clear c30b0
         try clear c30b1
         try clear c30b2
         try clear c31
         try clear c31b0
         try clear c31b1
         try clear c33
         try clear c33b0
         try clear c33b1
         try clear c34
         try clear c34b0
         try clear c34b1
         try clear c35
         try clear c39
         try clear p2
         obtain ⟨kq,x19_37,x20_37,rfl,rfl,HA,HJ37,HO_11,HB⟩ := hcut
         cases kq with
         | zero => exact absurd HA.out (by simp [plenumlaw56_DemandSteps.j2])
         | succ kj37 =>
          have H := HA.out
          clear HA
          simp only [plenumlaw56_DemandSteps.j2] at H
          replace H := Option.bind_eq_some_iff.mp H
          obtain ⟨t416,A400,H⟩ := H
          replace H : (if t416 = true then (plenumlaw56_DemandSteps.j3 kj37 l0 l1 a2 a3 a4 t397 t398 t409 t410 x19_37 x20_37) else (plenumlaw56_DemandSteps.j3 kj37 l0 l1 a2 a3 a4 t397 t398 t409 t410 6 x20_37)) = some r := H
          have A40 := Yd A400
          clear A400
          have HC41 := Yd H
          clear H
          go_upto_if 131 with (first | ((with_reducible refine gate_callee (f := 12) rfl ?_);refine goesL_ (some 130) rfl rfl Try.func12 (by kernel_rfl) rfl #[.int .i64 a3] rfl Y8 ?_;(with_reducible refine (plenumlaw56_inside.calls a3 t416 _ A40.out).mono ?_);rintro e w' ⟨rfl,⟨nd,rfl⟩⟩;refine ⟨_,rfl,?_⟩))
          (try simp only [Act.put,List.setIfInBounds_toArray,List.set_cons_zero,List.set_cons_succ])
          go_cut [19] (fun v19 wc => ∃ (kq : Nat) (x19_40 : Int),v19 = .int .i64 x19_40 ∧ Aside0 (plenumlaw56_DemandSteps.j3 kq l0 l1 a2 a3 a4 t397 t398 t409 t410 x19_40 x20_37 = some r) ∧ Aside0 (kq ≤ kj37) ∧ Aside0 (Kd.R k51 51 wc w.heap.size (fun _ => True) v399 t397) ∧ Aside0 (Below w.heap.size w wc))
          case first =>
           have H := HC41.out
           clear HC41
           by_cases c42 : t416 = true
           ·subst c42
            have H1 : (plenumlaw56_DemandSteps.j3 kj37 l0 l1 a2 a3 a4 t397 t398 t409 t410 x19_37 x20_37) = some r := by rw [if_pos rfl] at H;exact H
            clear H
            have H := H1
            clear H1
            have H' := Yd H
            clear H
            go_wp2
            go_meet
            case rel => exact ⟨_,(x19_37),Y12,H',⟨by have := HJ5.out;have := HJ18.out;have := HJ37.out;first | omega | exact Nat.le_refl _⟩,⟨Y5 HO_11.out⟩,⟨Y3 HB.out⟩⟩
           ·replace c42 := Bool.eq_false_iff.mpr c42
            subst c42
            have H1 : (plenumlaw56_DemandSteps.j3 kj37 l0 l1 a2 a3 a4 t397 t398 t409 t410 6 x20_37) = some r := by rw [if_neg (show ¬ (false = true) by decide)] at H;exact H
            clear H
            have H := H1
            clear H1
            have H' := Yd H
            clear H
            go_wp2
            go_meet
            case rel => exact ⟨_,(6),Y12,H',⟨by have := HJ5.out;have := HJ18.out;have := HJ37.out;first | omega | exact Nat.le_refl _⟩,⟨Y5 HO_11.out⟩,⟨Y3 HB.out⟩⟩
          case rest => as_aux_lemma =>
           clear HC41
           try clear c1
           try clear p2
           try clear c3
           try clear c4
           try clear c5
           try clear c6
           try clear c7
           try clear c7b0
           try clear c7b1
           try clear c8
           try clear c9
           try clear c11
           try clear c12
           try clear c18
           try clear c18b0
           try clear c18b1
           try clear c30
           try clear c30b0
           try clear c30b1
           try clear c30b2
           try clear c31
           try clear c31b0
           try clear c31b1
           try clear c33
           try clear c33b0
           try clear c33b1
           try clear c34
           try clear c34b0
           try clear c34b1
           try clear c35
           try clear c39
           try clear c42
           try clear p2
           obtain ⟨kq,x19_40,rfl,HA,HJ40,HO_11,HB⟩ := hcut
           cases kq with
           | zero => exact absurd HA.out (by simp [plenumlaw56_DemandSteps.j3])
           | succ kj40 =>
            have H := HA.out
            clear HA
            simp only [plenumlaw56_DemandSteps.j3] at H
            have HC43 := Yd H
            clear H
            go_upto_region 17 with (fail)
            go_cut [156] (fun v156 wc => ∃ (kq : Nat) (x156_42 : Bool),v156 = .bool x156_42 ∧ Aside0 (plenumlaw56_DemandSteps.j4 kq l0 l1 a2 a3 a4 t397 t409 x19_40 x20_37 x156_42 = some r) ∧ Aside0 (kq ≤ kj40) ∧ Aside0 (Kd.R k51 51 wc w.heap.size (fun _ => True) v399 t397) ∧ Aside0 (Below w.heap.size w wc))
            case first =>
             have H := HC43.out
             clear HC43
             by_cases c44 : t398 = x19_40
             ·rw [if_pos c44] at H
              have c44b0 : (t398 == x19_40) = true := beq_iff_eq.mpr c44
              have c44b1 : (t398 != x19_40) = false := bne_eq_false_iff_eq.mpr c44
              clear c44
              (first | rw [c44b0] | (simp only [i64_w,i32_w];rw [c44b0]) | skip)
              by_cases c45 : t410 = x20_37
              ·rw [if_pos c45] at H
               have c45b0 : (t410 == x20_37) = true := beq_iff_eq.mpr c45
               have c45b1 : (t410 != x20_37) = false := bne_eq_false_iff_eq.mpr c45
               clear c45
               by_cases c46 : x19_40 = 0
               ·rw [if_pos c46] at H
                have c46b0 : (x19_40 == 0) = true := beq_iff_eq.mpr c46
                have c46b1 : (x19_40 != 0) = false := bne_eq_false_iff_eq.mpr c46
                clear c46
                by_cases c47 : x20_37 = 0
                ·rw [if_pos c47] at H
                 have c47b0 : (x20_37 == 0) = true := beq_iff_eq.mpr c47
                 have c47b1 : (x20_37 != 0) = false := bne_eq_false_iff_eq.mpr c47
                 clear c47
                 have H' := Yd H
                 clear H
                 go_wp2
                 go_meet
                 case rel => exact ⟨_,(false),Y12,H',⟨by have := HJ5.out;have := HJ18.out;have := HJ37.out;have := HJ40.out;first | omega | exact Nat.le_refl _⟩,⟨Y5 HO_11.out⟩,⟨Y3 HB.out⟩⟩
                ·rw [if_neg c47] at H
                 have c47b0 : (x20_37 == 0) = false := beq_eq_false_iff_ne.mpr c47
                 have c47b1 : (x20_37 != 0) = true := bne_iff_ne.mpr c47
                 have H' := Yd H
                 clear H
                 go_wp2
                 go_meet
                 case rel => exact ⟨_,((t409 != 0)),Y12,H',⟨by have := HJ5.out;have := HJ18.out;have := HJ37.out;have := HJ40.out;first | omega | exact Nat.le_refl _⟩,⟨Y5 HO_11.out⟩,⟨Y3 HB.out⟩⟩
               ·rw [if_neg c46] at H
                have c46b0 : (x19_40 == 0) = false := beq_eq_false_iff_ne.mpr c46
                have c46b1 : (x19_40 != 0) = true := bne_iff_ne.mpr c46
                by_cases c48 : (t397.length : Int) > 0
                ·rw [if_pos c48] at H
                 have c48b0 : decide (0 < (t397.length : Int)) = true := decide_eq_true c48
                 have c48b1 : decide (0 < t397.length) = true := decide_eq_true (by omega)
                 clear c48
                 have H' := Yd H
                 clear H
                 obtain ⟨Ao49,co49,eo49⟩ := Kd.R_slice HO_11.out
                 subst eo49
                 go_wp2
                 go_meet
                 case rel => exact ⟨_,(true),Y12,H',⟨by have := HJ5.out;have := HJ18.out;have := HJ37.out;have := HJ40.out;first | omega | exact Nat.le_refl _⟩,⟨Y5 HO_11.out⟩,⟨Y3 HB.out⟩⟩
                ·rw [if_neg c48] at H
                 have c48b0 : decide (0 < (t397.length : Int)) = false := decide_eq_false c48
                 have c48b1 : decide (0 < t397.length) = false := decide_eq_false (by omega)
                 clear c48
                 by_cases c50 : x20_37 = 0
                 ·rw [if_pos c50] at H
                  have c50b0 : (x20_37 == 0) = true := beq_iff_eq.mpr c50
                  have c50b1 : (x20_37 != 0) = false := bne_eq_false_iff_eq.mpr c50
                  clear c50
                  have H' := Yd H
                  clear H
                  obtain ⟨Ao51,co51,eo51⟩ := Kd.R_slice HO_11.out
                  subst eo51
                  go_wp2
                  go_meet
                  case rel => exact ⟨_,(false),Y12,H',⟨by have := HJ5.out;have := HJ18.out;have := HJ37.out;have := HJ40.out;first | omega | exact Nat.le_refl _⟩,⟨Y5 HO_11.out⟩,⟨Y3 HB.out⟩⟩
                 ·rw [if_neg c50] at H
                  have c50b0 : (x20_37 == 0) = false := beq_eq_false_iff_ne.mpr c50
                  have c50b1 : (x20_37 != 0) = true := bne_iff_ne.mpr c50
                  have H' := Yd H
                  clear H
                  obtain ⟨Ao52,co52,eo52⟩ := Kd.R_slice HO_11.out
                  subst eo52
                  go_wp2
                  go_meet
                  case rel => exact ⟨_,((t409 != 0)),Y12,H',⟨by have := HJ5.out;have := HJ18.out;have := HJ37.out;have := HJ40.out;first | omega | exact Nat.le_refl _⟩,⟨Y5 HO_11.out⟩,⟨Y3 HB.out⟩⟩
              ·rw [if_neg c45] at H
               have c45b0 : (t410 == x20_37) = false := beq_eq_false_iff_ne.mpr c45
               have c45b1 : (t410 != x20_37) = true := bne_iff_ne.mpr c45
               have H' := Yd H
               clear H
               go_wp2
               go_meet
               case rel => exact ⟨_,(true),Y12,H',⟨by have := HJ5.out;have := HJ18.out;have := HJ37.out;have := HJ40.out;first | omega | exact Nat.le_refl _⟩,⟨Y5 HO_11.out⟩,⟨Y3 HB.out⟩⟩
             ·rw [if_neg c44] at H
              have c44b0 : (t398 == x19_40) = false := beq_eq_false_iff_ne.mpr c44
              have c44b1 : (t398 != x19_40) = true := bne_iff_ne.mpr c44
              (first | rw [c44b0] | (simp only [i64_w,i32_w];rw [c44b0]) | skip)
              have H' := Yd H
              clear H
              go_wp2
              go_meet
              case rel => exact ⟨_,(true),Y12,H',⟨by have := HJ5.out;have := HJ18.out;have := HJ37.out;have := HJ40.out;first | omega | exact Nat.le_refl _⟩,⟨Y5 HO_11.out⟩,⟨Y3 HB.out⟩⟩
            case rest => as_aux_lemma =>
             clear HC43
             try clear c1
             try clear p2
             try clear c3
             try clear c4
             try clear c5
             try clear c6
             try clear c7
             try clear c7b0
             try clear c7b1
             try clear c8
             try clear c9
             try clear c11
             try clear c12
             try clear c18
             try clear c18b0
             try clear c18b1
             try clear c30
             try clear c30b0
             try clear c30b1
             try clear c30b2
             try clear c31
             try clear c31b0
             try clear c31b1
             try clear c33
             try clear c33b0
             try clear c33b1
             try clear c34
             try clear c34b0
             try clear c34b1
             try clear c35
             try clear c39
             try clear c42
             try clear c44
             try clear c44b0
             try clear c44b1
             try clear c45
             try clear c45b0
             try clear c45b1
             try clear c46
             try clear c46b0
             try clear c46b1
             try clear c47
             try clear c47b0
             try clear c47b1
             try clear c48
             try clear c48b0
             try clear c48b1
             try clear c50
             try clear c50b0
             try clear c50b1
             try clear p2
             obtain ⟨kq,x156_42,rfl,HA,HJ42,HO_11,HB⟩ := hcut
             cases kq with
             | zero => exact absurd HA.out (by simp [plenumlaw56_DemandSteps.j4])
             | succ kj42 =>
              have H := HA.out
              clear HA
              simp only [plenumlaw56_DemandSteps.j4] at H
              by_cases c53 : x156_42 = true
              ·subst c53
               have H1 : (none) = some r := by rw [if_pos rfl] at H;exact H
               clear H
               have H := H1
               clear H1
               exact absurd H (by simp)
              ·replace c53 := Bool.eq_false_iff.mpr c53
               subst c53
               have H1 : ((plenumlaw56_awake.f kj42).bind fun t417 => (if t417 = true then (if x19_40 = 0 then ((plenumlaw56_theirs.f kj42 t397).bind fun t418 => ((plenumref56_Step.f kj42 l0 l1 a2 a3 a4).bind fun t421 => ((plenumref56_Same.f kj42 t418 t421).bind fun t424 => (if t424 = true then (if x20_37 = 0 then ((plenumref56_Level.f kj42 l0 l1 a2 a4).bind fun t425 => (some (t409 == t425))) else (some true)) else (none))))) else (if x20_37 = 0 then ((plenumref56_Level.f kj42 l0 l1 a2 a4).bind fun t426 => (some (t409 == t426))) else (some true))) else (none))) = some r := by rw [if_neg (show ¬ (false = true) by decide)] at H;exact H
               clear H
               have H := H1
               clear H1
               replace H := Option.bind_eq_some_iff.mp H
               obtain ⟨t417,A540,H⟩ := H
               replace H : (if t417 = true then (if x19_40 = 0 then ((plenumlaw56_theirs.f kj42 t397).bind fun t418 => ((plenumref56_Step.f kj42 l0 l1 a2 a3 a4).bind fun t421 => ((plenumref56_Same.f kj42 t418 t421).bind fun t424 => (if t424 = true then (if x20_37 = 0 then ((plenumref56_Level.f kj42 l0 l1 a2 a4).bind fun t425 => (some (t409 == t425))) else (some true)) else (none))))) else (if x20_37 = 0 then ((plenumref56_Level.f kj42 l0 l1 a2 a4).bind fun t426 => (some (t409 == t426))) else (some true))) else (none)) = some r := H
               have A54 := Yd A540
               clear A540
               by_cases c55 : t417 = true
               ·subst c55
                have H1 : (if x19_40 = 0 then ((plenumlaw56_theirs.f kj42 t397).bind fun t418 => ((plenumref56_Step.f kj42 l0 l1 a2 a3 a4).bind fun t421 => ((plenumref56_Same.f kj42 t418 t421).bind fun t424 => (if t424 = true then (if x20_37 = 0 then ((plenumref56_Level.f kj42 l0 l1 a2 a4).bind fun t425 => (some (t409 == t425))) else (some true)) else (none))))) else (if x20_37 = 0 then ((plenumref56_Level.f kj42 l0 l1 a2 a4).bind fun t426 => (some (t409 == t426))) else (some true))) = some r := by rw [if_pos rfl] at H;exact H
                clear H
                have H := H1
                clear H1
                by_cases c56 : x19_40 = 0
                ·rw [if_pos c56] at H
                 have c56b0 : (x19_40 == 0) = true := beq_iff_eq.mpr c56
                 have c56b1 : (x19_40 != 0) = false := bne_eq_false_iff_eq.mpr c56
                 clear c56
                 replace H := Option.bind_eq_some_iff.mp H
                 obtain ⟨t418,A570,H⟩ := H
                 replace H : ((plenumref56_Step.f kj42 l0 l1 a2 a3 a4).bind fun t421 => ((plenumref56_Same.f kj42 t418 t421).bind fun t424 => (if t424 = true then (if x20_37 = 0 then ((plenumref56_Level.f kj42 l0 l1 a2 a4).bind fun t425 => (some (t409 == t425))) else (some true)) else (none)))) = some r := H
                 have A57 := Yd A570
                 clear A570
                 replace H := Option.bind_eq_some_iff.mp H
                 obtain ⟨t421,A580,H⟩ := H
                 replace H : ((plenumref56_Same.f kj42 t418 t421).bind fun t424 => (if t424 = true then (if x20_37 = 0 then ((plenumref56_Level.f kj42 l0 l1 a2 a4).bind fun t425 => (some (t409 == t425))) else (some true)) else (none))) = some r := H
                 have A58 := Yd A580
                 clear A580
                 replace H := Option.bind_eq_some_iff.mp H
                 obtain ⟨t424,A590,H⟩ := H
                 replace H : (if t424 = true then (if x20_37 = 0 then ((plenumref56_Level.f kj42 l0 l1 a2 a4).bind fun t425 => (some (t409 == t425))) else (some true)) else (none)) = some r := H
                 have A59 := Yd A590
                 clear A590
                 by_cases c60 : t424 = true
                 ·subst c60
                  have H1 : (if x20_37 = 0 then ((plenumref56_Level.f kj42 l0 l1 a2 a4).bind fun t425 => (some (t409 == t425))) else (some true)) = some r := by rw [if_pos rfl] at H;exact H
                  clear H
                  have H := H1
                  clear H1
                  by_cases c61 : x20_37 = 0
                  ·rw [if_pos c61] at H
                   have c61b0 : (x20_37 == 0) = true := beq_iff_eq.mpr c61
                   have c61b1 : (x20_37 != 0) = false := bne_eq_false_iff_eq.mpr c61
                   clear c61
                   replace H := Option.bind_eq_some_iff.mp H
                   obtain ⟨t425,A620,H⟩ := H
                   replace H : (some (t409 == t425)) = some r := H
                   have A62 := Yd A620
                   clear A620
                   obtain rfl := Option.some.inj H
                   go_wp2_with (first | ((with_reducible refine gate_callee (f := 4) rfl ?_);refine goesL_ (some 157) rfl rfl Try.func4 (by kernel_rfl) rfl #[] rfl Y8 ?_;(with_reducible refine (plenumlaw56_awake.calls kj42  true _ A54.out).mono ?_);rintro e w63 ⟨rfl,hb⟩;refine ⟨_,rfl,?_⟩;have n0_ := Yd (Kd.R_below (Y5 HO_11.out) hb);have n1_ := Yd (below_step (Y3 HB.out) hb);clear HO_11;clear HB;have HO_11 := n0_;have HB := n1_;clear n0_ n1_;(try clear hb);(try clear hb2);(try clear hk);(try clear hi);obtain ⟨Ao64,co64,eo64⟩ := Kd.R_slice HO_11.out;subst eo64) | (go_at_call 14;(with_reducible refine (plenumlaw56_theirs.calls kj42 _ _ t397 t418 _ ?side1 ?side2 A57.out).mono ?_);(case side1 => repeat (first | exact (Kd.R_reads' HO_11.out).2.2 | (with_reducible refine Kd.C_alloc ?_ _) | (with_reducible refine Kd.C_drewN ?_ _) | (with_reducible refine Kd.C_drew ?_)));(case side2 => exact (Kd.R_reads' HO_11.out).2.1);rintro e w65 ⟨v419,rfl,ho0,hb⟩;have n0_ := Yd (Kd.R_below (Y5 HO_11.out) hb);have n1_ := Yd (Kd.R_lower ho0 (below_size (Y3 HB.out)));have n2_ := Yd (below_step (Y3 HB.out) hb);clear HO_11;clear HB;have HO_11 := n0_;have HO420 := n1_;have HB := n2_;clear n0_ n1_ n2_;(try clear hb);(try clear hb2);(try clear hk);(try clear hi);(try clear ho0)) | (go_at_call 15;(with_reducible refine (plenumref56_Step.calls kj42 _ _ l0 _ _ l1 a2 a3 a4 t421 _ ?side1 ?side2 ?side3 ?side4 A58.out).mono ?_);(case side1 => exact Y11 (Kd.C_below HR0.out HB.out));(case side2 => exact HC0.out);(case side3 => exact Y11 (Kd.C_below HR1.out HB.out));(case side4 => exact HC1.out);rintro e w66 ⟨v422,rfl,ho0,hb⟩;have n0_ := Yd (Kd.R_below (Y5 HO_11.out) hb);have n1_ := Yd (Kd.R_elder' (Y5 HO420.out) (Kd.R_base ho0) hb);have n2_ := Yd (Kd.R_lower (Kd.R_new' ho0 (Kd.R_lt (Y5 HO420.out))) (below_size (Y3 HB.out)));have n3_ := Yd (below_step (Y3 HB.out) hb);clear HO_11;clear HO420;clear HB;have HO_11 := n0_;have HO420 := n1_;have HO423 := n2_;have HB := n3_;clear n0_ n1_ n2_ n3_;(try clear hb);(try clear hb2);(try clear hk);(try clear hi);(try clear ho0);obtain ⟨Ao67,co67,eo67⟩ := Kd.R_slice HO420.out;subst eo67;obtain ⟨Ao68,co68,eo68⟩ := Kd.R_slice HO423.out;subst eo68) | (go_at_call 13;(with_reducible refine (plenumref56_Same.calls kj42 _ _ t418 _ _ t421 true _ ?side1 ?side2 ?side3 ?side4 A59.out).mono ?_);(case side1 => repeat (first | exact (Kd.R_reads' HO420.out).2.2 | (with_reducible refine Kd.C_alloc ?_ _) | (with_reducible refine Kd.C_drewN ?_ _) | (with_reducible refine Kd.C_drew ?_)));(case side2 => exact (Kd.R_reads' HO420.out).2.1);(case side3 => repeat (first | exact (Kd.R_reads' HO423.out).2.2 | (with_reducible refine Kd.C_alloc ?_ _) | (with_reducible refine Kd.C_drewN ?_ _) | (with_reducible refine Kd.C_drew ?_)));(case side4 => exact (Kd.R_reads' HO423.out).2.1);rintro e w' ⟨rfl,⟨nd,rfl⟩⟩) | (go_at_call 16;(with_reducible refine (plenumref56_Level.calls kj42 _ _ l0 _ _ l1 a2 a4 t425 _ ?side1 ?side2 ?side3 ?side4 A62.out).mono ?_);(case side1 => exact Y11 (Kd.C_below HR0.out (Y3 HB.out)));(case side2 => exact HC0.out);(case side3 => exact Y11 (Kd.C_below HR1.out (Y3 HB.out)));(case side4 => exact HC1.out);rintro e w69 ⟨rfl,hb⟩;have n0_ := Yd (Kd.R_below (Y5 HO_11.out) hb);have n1_ := Yd (Kd.R_below (Y5 HO420.out) hb);have n2_ := Yd (Kd.R_below (Y5 HO423.out) hb);have n3_ := Yd (below_step (Y3 HB.out) hb);clear HO_11;clear HO420;clear HO423;clear HB;have HO_11 := n0_;have HO420 := n1_;have HO423 := n2_;have HB := n3_;clear n0_ n1_ n2_ n3_;(try clear hb);(try clear hb2);(try clear hk);(try clear hi)))
                   go_ret
                   exact ⟨by first | rfl | (simp [errW_none,errW_some] <;> rfl) | (simp [*,errW_none,errW_some] <;> rfl),Y3 HB.out⟩
                  ·rw [if_neg c61] at H
                   have c61b0 : (x20_37 == 0) = false := beq_eq_false_iff_ne.mpr c61
                   have c61b1 : (x20_37 != 0) = true := bne_iff_ne.mpr c61
                   obtain rfl := Option.some.inj H
                   go_wp2_with (first | ((with_reducible refine gate_callee (f := 4) rfl ?_);refine goesL_ (some 157) rfl rfl Try.func4 (by kernel_rfl) rfl #[] rfl Y8 ?_;(with_reducible refine (plenumlaw56_awake.calls kj42  true _ A54.out).mono ?_);rintro e w70 ⟨rfl,hb⟩;refine ⟨_,rfl,?_⟩;have n0_ := Yd (Kd.R_below (Y5 HO_11.out) hb);have n1_ := Yd (below_step (Y3 HB.out) hb);clear HO_11;clear HB;have HO_11 := n0_;have HB := n1_;clear n0_ n1_;(try clear hb);(try clear hb2);(try clear hk);(try clear hi);obtain ⟨Ao71,co71,eo71⟩ := Kd.R_slice HO_11.out;subst eo71) | (go_at_call 14;(with_reducible refine (plenumlaw56_theirs.calls kj42 _ _ t397 t418 _ ?side1 ?side2 A57.out).mono ?_);(case side1 => repeat (first | exact (Kd.R_reads' HO_11.out).2.2 | (with_reducible refine Kd.C_alloc ?_ _) | (with_reducible refine Kd.C_drewN ?_ _) | (with_reducible refine Kd.C_drew ?_)));(case side2 => exact (Kd.R_reads' HO_11.out).2.1);rintro e w72 ⟨v419,rfl,ho0,hb⟩;have n0_ := Yd (Kd.R_below (Y5 HO_11.out) hb);have n1_ := Yd (Kd.R_lower ho0 (below_size (Y3 HB.out)));have n2_ := Yd (below_step (Y3 HB.out) hb);clear HO_11;clear HB;have HO_11 := n0_;have HO420 := n1_;have HB := n2_;clear n0_ n1_ n2_;(try clear hb);(try clear hb2);(try clear hk);(try clear hi);(try clear ho0)) | (go_at_call 15;(with_reducible refine (plenumref56_Step.calls kj42 _ _ l0 _ _ l1 a2 a3 a4 t421 _ ?side1 ?side2 ?side3 ?side4 A58.out).mono ?_);(case side1 => exact Y11 (Kd.C_below HR0.out HB.out));(case side2 => exact HC0.out);(case side3 => exact Y11 (Kd.C_below HR1.out HB.out));(case side4 => exact HC1.out);rintro e w73 ⟨v422,rfl,ho0,hb⟩;have n0_ := Yd (Kd.R_below (Y5 HO_11.out) hb);have n1_ := Yd (Kd.R_elder' (Y5 HO420.out) (Kd.R_base ho0) hb);have n2_ := Yd (Kd.R_lower (Kd.R_new' ho0 (Kd.R_lt (Y5 HO420.out))) (below_size (Y3 HB.out)));have n3_ := Yd (below_step (Y3 HB.out) hb);clear HO_11;clear HO420;clear HB;have HO_11 := n0_;have HO420 := n1_;have HO423 := n2_;have HB := n3_;clear n0_ n1_ n2_ n3_;(try clear hb);(try clear hb2);(try clear hk);(try clear hi);(try clear ho0);obtain ⟨Ao74,co74,eo74⟩ := Kd.R_slice HO420.out;subst eo74;obtain ⟨Ao75,co75,eo75⟩ := Kd.R_slice HO423.out;subst eo75) | (go_at_call 13;(with_reducible refine (plenumref56_Same.calls kj42 _ _ t418 _ _ t421 true _ ?side1 ?side2 ?side3 ?side4 A59.out).mono ?_);(case side1 => repeat (first | exact (Kd.R_reads' HO420.out).2.2 | (with_reducible refine Kd.C_alloc ?_ _) | (with_reducible refine Kd.C_drewN ?_ _) | (with_reducible refine Kd.C_drew ?_)));(case side2 => exact (Kd.R_reads' HO420.out).2.1);(case side3 => repeat (first | exact (Kd.R_reads' HO423.out).2.2 | (with_reducible refine Kd.C_alloc ?_ _) | (with_reducible refine Kd.C_drewN ?_ _) | (with_reducible refine Kd.C_drew ?_)));(case side4 => exact (Kd.R_reads' HO423.out).2.1);rintro e w' ⟨rfl,⟨nd,rfl⟩⟩))
                   go_ret
                   exact ⟨by first | rfl | (simp [errW_none,errW_some] <;> rfl) | (simp [*,errW_none,errW_some] <;> rfl),Y3 HB.out⟩
                 ·replace c60 := Bool.eq_false_iff.mpr c60
                  subst c60
                  have H1 : (none) = some r := by rw [if_neg (show ¬ (false = true) by decide)] at H;exact H
                  clear H
                  have H := H1
                  clear H1
                  exact absurd H (by simp)
                ·rw [if_neg c56] at H
                 have c56b0 : (x19_40 == 0) = false := beq_eq_false_iff_ne.mpr c56
                 have c56b1 : (x19_40 != 0) = true := bne_iff_ne.mpr c56
                 by_cases c76 : x20_37 = 0
                 ·rw [if_pos c76] at H
                  have c76b0 : (x20_37 == 0) = true := beq_iff_eq.mpr c76
                  have c76b1 : (x20_37 != 0) = false := bne_eq_false_iff_eq.mpr c76
                  clear c76
                  replace H := Option.bind_eq_some_iff.mp H
                  obtain ⟨t426,A770,H⟩ := H
                  replace H : (some (t409 == t426)) = some r := H
                  have A77 := Yd A770
                  clear A770
                  obtain rfl := Option.some.inj H
                  go_wp2_with (first | ((with_reducible refine gate_callee (f := 4) rfl ?_);refine goesL_ (some 157) rfl rfl Try.func4 (by kernel_rfl) rfl #[] rfl Y8 ?_;(with_reducible refine (plenumlaw56_awake.calls kj42  true _ A54.out).mono ?_);rintro e w78 ⟨rfl,hb⟩;refine ⟨_,rfl,?_⟩;have n0_ := Yd (Kd.R_below (Y5 HO_11.out) hb);have n1_ := Yd (below_step (Y3 HB.out) hb);clear HO_11;clear HB;have HO_11 := n0_;have HB := n1_;clear n0_ n1_;(try clear hb);(try clear hb2);(try clear hk);(try clear hi)) | (go_at_call 16;(with_reducible refine (plenumref56_Level.calls kj42 _ _ l0 _ _ l1 a2 a4 t426 _ ?side1 ?side2 ?side3 ?side4 A77.out).mono ?_);(case side1 => exact Y11 (Kd.C_below HR0.out HB.out));(case side2 => exact HC0.out);(case side3 => exact Y11 (Kd.C_below HR1.out HB.out));(case side4 => exact HC1.out);rintro e w79 ⟨rfl,hb⟩;have n0_ := Yd (Kd.R_below (Y5 HO_11.out) hb);have n1_ := Yd (below_step (Y3 HB.out) hb);clear HO_11;clear HB;have HO_11 := n0_;have HB := n1_;clear n0_ n1_;(try clear hb);(try clear hb2);(try clear hk);(try clear hi)))
                  go_ret
                  exact ⟨by first | rfl | (simp [errW_none,errW_some] <;> rfl) | (simp [*,errW_none,errW_some] <;> rfl),Y3 HB.out⟩
                 ·rw [if_neg c76] at H
                  have c76b0 : (x20_37 == 0) = false := beq_eq_false_iff_ne.mpr c76
                  have c76b1 : (x20_37 != 0) = true := bne_iff_ne.mpr c76
                  obtain rfl := Option.some.inj H
                  go_wp2_with (first | ((with_reducible refine gate_callee (f := 4) rfl ?_);refine goesL_ (some 157) rfl rfl Try.func4 (by kernel_rfl) rfl #[] rfl Y8 ?_;(with_reducible refine (plenumlaw56_awake.calls kj42  true _ A54.out).mono ?_);rintro e w80 ⟨rfl,hb⟩;refine ⟨_,rfl,?_⟩;have n0_ := Yd (Kd.R_below (Y5 HO_11.out) hb);have n1_ := Yd (below_step (Y3 HB.out) hb);clear HO_11;clear HB;have HO_11 := n0_;have HB := n1_;clear n0_ n1_;(try clear hb);(try clear hb2);(try clear hk);(try clear hi)))
                  go_ret
                  exact ⟨by first | rfl | (simp [errW_none,errW_some] <;> rfl) | (simp [*,errW_none,errW_some] <;> rfl),Y3 HB.out⟩
               ·replace c55 := Bool.eq_false_iff.mpr c55
                subst c55
                have H1 : (none) = some r := by rw [if_neg (show ¬ (false = true) by decide)] at H;exact H
                clear H
                have H := H1
                clear H1
                exact absurd H (by simp)
    ·rw [if_neg c18] at H
     have c18b0 : (t411 == 0) = false := beq_eq_false_iff_ne.mpr c18
     have c18b1 : (t411 != 0) = true := bne_iff_ne.mpr c18
     replace H := Option.bind_eq_some_iff.mp H
     obtain ⟨t412,A810,H⟩ := H
     replace H : (if t412 = true then (if t398 = t411 then (if t405 = t411 then (if t410 = t411 then (if (t397.length : Int) = 0 then (if t404 = 0 then (some (t409 == 0)) else (none)) else (none)) else (none)) else (none)) else (none)) else (none)) = some r := H
     have A81 := Yd A810
     clear A810
     by_cases c82 : t412 = true
     ·subst c82
      have H1 : (if t398 = t411 then (if t405 = t411 then (if t410 = t411 then (if (t397.length : Int) = 0 then (if t404 = 0 then (some (t409 == 0)) else (none)) else (none)) else (none)) else (none)) else (none)) = some r := by rw [if_pos rfl] at H;exact H
      clear H
      have H := H1
      clear H1
      by_cases c83 : t398 = t411
      case neg => rw [if_neg c83] at H;exact absurd H (by simp)
      rw [if_pos c83] at H
      have c83b0 : (t398 == t411) = true := beq_iff_eq.mpr c83
      have c83b1 : (t398 != t411) = false := bne_eq_false_iff_eq.mpr c83
      clear c83
      by_cases c84 : t405 = t411
      case neg => rw [if_neg c84] at H;exact absurd H (by simp)
      rw [if_pos c84] at H
      have c84b0 : (t405 == t411) = true := beq_iff_eq.mpr c84
      have c84b1 : (t405 != t411) = false := bne_eq_false_iff_eq.mpr c84
      clear c84
      by_cases c85 : t410 = t411
      case neg => rw [if_neg c85] at H;exact absurd H (by simp)
      rw [if_pos c85] at H
      have c85b0 : (t410 == t411) = true := beq_iff_eq.mpr c85
      have c85b1 : (t410 != t411) = false := bne_eq_false_iff_eq.mpr c85
      clear c85
      by_cases c86 : (t397.length : Int) = 0
      case neg => rw [if_neg c86] at H;exact absurd H (by simp)
      rw [if_pos c86] at H
      have c86b0 : ((t397.length : Int) == 0) = true := beq_iff_eq.mpr c86
      have c86b1 : ((t397.length : Int) != 0) = false := bne_eq_false_iff_eq.mpr c86
      clear c86
      by_cases c87 : t404 = 0
      case neg => rw [if_neg c87] at H;exact absurd H (by simp)
      rw [if_pos c87] at H
      have c87b0 : (t404 == 0) = true := beq_iff_eq.mpr c87
      have c87b1 : (t404 != 0) = false := bne_eq_false_iff_eq.mpr c87
      clear c87
      obtain rfl := Option.some.inj H
      go_wp2_with (first | ((with_reducible refine gate_callee (f := 6) rfl ?_);refine goesL_ (some 33) rfl rfl Try.func6 (by kernel_rfl) rfl #[.slice A1 l1.length c1] rfl Y8 ?_;(with_reducible refine (plenumlaw56_ours.calls kj5 _ _ l1 t394 _ ?side1 ?side2 A11.out).mono ?_);(case side1 => exact Y11 (Kd.C_below HR1.out HB.out));(case side2 => exact HC1.out);rintro e w88 ⟨v395,rfl,ho0,hb⟩;refine ⟨_,rfl,?_⟩;have n0_ := Yd (Kd.R_lower ho0 (below_size (Y3 HB.out)));have n1_ := Yd (below_step (Y3 HB.out) hb);clear HB;have HO396 := n0_;have HB := n1_;clear n0_ n1_;(try clear hb);(try clear hb2);(try clear hk);(try clear hi);(try clear ho0);obtain ⟨Ao89,co89,eo89⟩ := Kd.R_slice HO396.out;subst eo89) | ((with_reducible refine gate_callee (f := 5) rfl ?_);refine goesL_ (some 37) rfl rfl Try.func5 (by kernel_rfl) rfl #[.slice A0 l0.length c0,.slice Ao89 t394.length co89,.int .i64 a2,.int .i64 a3,.int .i64 a4] rfl Y8 ?_;(with_reducible refine (demand_Step.calls kj5 _ _ l0 _ _ t394 a2 a3 a4 t397 t398 _ ?side1 ?side2 ?side3 ?side4 A12.out).mono ?_);(case side1 => exact Y11 (Kd.C_below HR0.out HB.out));(case side2 => exact HC0.out);(case side3 => repeat (first | exact (Kd.R_reads' HO396.out).2.2 | (with_reducible refine Kd.C_alloc ?_ _) | (with_reducible refine Kd.C_drewN ?_ _) | (with_reducible refine Kd.C_drew ?_)));(case side4 => exact (Kd.R_reads' HO396.out).2.1);rintro e w90 ⟨v399,rfl,ho0,hb⟩;refine ⟨_,rfl,?_⟩;have n0_ := Yd (Kd.R_elder' (Y5 HO396.out) (Kd.R_base ho0) hb);have n1_ := Yd (Kd.R_lower (Kd.R_new' ho0 (Kd.R_lt (Y5 HO396.out))) (below_size (Y3 HB.out)));have n2_ := Yd (below_step (Y3 HB.out) hb);clear HO396;clear HB;have HO396 := n0_;have HO400 := n1_;have HB := n2_;clear n0_ n1_ n2_;(try clear hb);(try clear hb2);(try clear hk);(try clear hi);(try clear ho0)) | ((with_reducible refine gate_callee (f := 6) rfl ?_);refine goesL_ (some 43) rfl rfl Try.func6 (by kernel_rfl) rfl #[.slice A1 l1.length c1] rfl Y8 ?_;(with_reducible refine (plenumlaw56_ours.calls kj5 _ _ l1 t401 _ ?side1 ?side2 A13.out).mono ?_);(case side1 => exact Y11 (Kd.C_below HR1.out HB.out));(case side2 => exact HC1.out);rintro e w91 ⟨v402,rfl,ho0,hb⟩;refine ⟨_,rfl,?_⟩;have n0_ := Yd (Kd.R_elder' (Y5 HO396.out) (Kd.R_base ho0) hb);have n1_ := Yd (Kd.R_elder' (Y5 HO400.out) (Kd.R_base ho0) hb);have n2_ := Yd (Kd.R_lower (Kd.R_new' (Kd.R_new' ho0 (Kd.R_lt (Y5 HO396.out))) (Kd.R_lt (Y5 HO400.out))) (below_size (Y3 HB.out)));have n3_ := Yd (below_step (Y3 HB.out) hb);clear HO396;clear HO400;clear HB;have HO396 := n0_;have HO400 := n1_;have HO403 := n2_;have HB := n3_;clear n0_ n1_ n2_ n3_;(try clear hb);(try clear hb2);(try clear hk);(try clear hi);(try clear ho0);obtain ⟨Ao92,co92,eo92⟩ := Kd.R_slice HO403.out;subst eo92) | ((with_reducible refine gate_callee (f := 7) rfl ?_);refine goesL_ (some 44) rfl rfl Try.func7 (by kernel_rfl) rfl #[.slice A0 l0.length c0,.slice Ao92 t401.length co92] rfl Y8 ?_;(with_reducible refine (demand_Power.calls kj5 _ _ l0 _ _ t401 t404 t405 _ ?side1 ?side2 ?side3 ?side4 A14.out).mono ?_);(case side1 => exact Y11 (Kd.C_below HR0.out HB.out));(case side2 => exact HC0.out);(case side3 => repeat (first | exact (Kd.R_reads' HO403.out).2.2 | (with_reducible refine Kd.C_alloc ?_ _) | (with_reducible refine Kd.C_drewN ?_ _) | (with_reducible refine Kd.C_drew ?_)));(case side4 => exact (Kd.R_reads' HO403.out).2.1);rintro e w93 ⟨rfl,hb⟩;refine ⟨_,rfl,?_⟩;have n0_ := Yd (Kd.R_below (Y5 HO396.out) hb);have n1_ := Yd (Kd.R_below (Y5 HO400.out) hb);have n2_ := Yd (Kd.R_below (Y5 HO403.out) hb);have n3_ := Yd (below_step (Y3 HB.out) hb);clear HO396;clear HO400;clear HO403;clear HB;have HO396 := n0_;have HO400 := n1_;have HO403 := n2_;have HB := n3_;clear n0_ n1_ n2_ n3_;(try clear hb);(try clear hb2);(try clear hk);(try clear hi)) | ((with_reducible refine gate_callee (f := 6) rfl ?_);refine goesL_ (some 50) rfl rfl Try.func6 (by kernel_rfl) rfl #[.slice A1 l1.length c1] rfl Y8 ?_;(with_reducible refine (plenumlaw56_ours.calls kj5 _ _ l1 t406 _ ?side1 ?side2 A15.out).mono ?_);(case side1 => exact Y11 (Kd.C_below HR1.out HB.out));(case side2 => exact HC1.out);rintro e w94 ⟨v407,rfl,ho0,hb⟩;refine ⟨_,rfl,?_⟩;have n0_ := Yd (Kd.R_elder' (Y5 HO396.out) (Kd.R_base ho0) hb);have n1_ := Yd (Kd.R_elder' (Y5 HO400.out) (Kd.R_base ho0) hb);have n2_ := Yd (Kd.R_elder' (Y5 HO403.out) (Kd.R_base ho0) hb);have n3_ := Yd (Kd.R_lower (Kd.R_new' (Kd.R_new' (Kd.R_new' ho0 (Kd.R_lt (Y5 HO396.out))) (Kd.R_lt (Y5 HO400.out))) (Kd.R_lt (Y5 HO403.out))) (below_size (Y3 HB.out)));have n4_ := Yd (below_step (Y3 HB.out) hb);clear HO396;clear HO400;clear HO403;clear HB;have HO396 := n0_;have HO400 := n1_;have HO403 := n2_;have HO408 := n3_;have HB := n4_;clear n0_ n1_ n2_ n3_ n4_;(try clear hb);(try clear hb2);(try clear hk);(try clear hi);(try clear ho0);obtain ⟨Ao95,co95,eo95⟩ := Kd.R_slice HO408.out;subst eo95) | ((with_reducible refine gate_callee (f := 8) rfl ?_);refine goesL_ (some 53) rfl rfl Try.func8 (by kernel_rfl) rfl #[.slice A0 l0.length c0,.slice Ao95 t406.length co95,.int .i64 a2,.int .i64 a4] rfl Y8 ?_;(with_reducible refine (demand_Level.calls kj5 _ _ l0 _ _ t406 a2 a4 t409 t410 _ ?side1 ?side2 ?side3 ?side4 A16.out).mono ?_);(case side1 => exact Y11 (Kd.C_below HR0.out HB.out));(case side2 => exact HC0.out);(case side3 => repeat (first | exact (Kd.R_reads' HO408.out).2.2 | (with_reducible refine Kd.C_alloc ?_ _) | (with_reducible refine Kd.C_drewN ?_ _) | (with_reducible refine Kd.C_drew ?_)));(case side4 => exact (Kd.R_reads' HO408.out).2.1);rintro e w96 ⟨rfl,hb⟩;refine ⟨_,rfl,?_⟩;have n0_ := Yd (Kd.R_below (Y5 HO396.out) hb);have n1_ := Yd (Kd.R_below (Y5 HO400.out) hb);have n2_ := Yd (Kd.R_below (Y5 HO403.out) hb);have n3_ := Yd (Kd.R_below (Y5 HO408.out) hb);have n4_ := Yd (below_step (Y3 HB.out) hb);clear HO396;clear HO400;clear HO403;clear HO408;clear HB;have HO396 := n0_;have HO400 := n1_;have HO403 := n2_;have HO408 := n3_;have HB := n4_;clear n0_ n1_ n2_ n3_ n4_;(try clear hb);(try clear hb2);(try clear hk);(try clear hi)) | ((with_reducible refine gate_callee (f := 9) rfl ?_);refine goesL_ (some 57) rfl rfl Try.func9 (by kernel_rfl) rfl #[.slice A0 l0.length c0] rfl Y8 ?_;(with_reducible refine (plenumref56_Check.calls kj5 _ _ l0 t411 _ ?side1 ?side2 A17.out).mono ?_);(case side1 => exact Y11 (Kd.C_below HR0.out HB.out));(case side2 => exact HC0.out);rintro e w97 ⟨rfl,hb⟩;refine ⟨_,rfl,?_⟩;have n0_ := Yd (Kd.R_below (Y5 HO396.out) hb);have n1_ := Yd (Kd.R_below (Y5 HO400.out) hb);have n2_ := Yd (Kd.R_below (Y5 HO403.out) hb);have n3_ := Yd (Kd.R_below (Y5 HO408.out) hb);have n4_ := Yd (below_step (Y3 HB.out) hb);clear HO396;clear HO400;clear HO403;clear HO408;clear HB;have HO396 := n0_;have HO400 := n1_;have HO403 := n2_;have HO408 := n3_;have HB := n4_;clear n0_ n1_ n2_ n3_ n4_;(try clear hb);(try clear hb2);(try clear hk);(try clear hi)) | ((with_reducible refine gate_callee (f := 4) rfl ?_);refine goesL_ (some 60) rfl rfl Try.func4 (by kernel_rfl) rfl #[] rfl Y8 ?_;(with_reducible refine (plenumlaw56_awake.calls kj5  true _ A81.out).mono ?_);rintro e w98 ⟨rfl,hb⟩;refine ⟨_,rfl,?_⟩;have n0_ := Yd (Kd.R_below (Y5 HO396.out) hb);have n1_ := Yd (Kd.R_below (Y5 HO400.out) hb);have n2_ := Yd (Kd.R_below (Y5 HO403.out) hb);have n3_ := Yd (Kd.R_below (Y5 HO408.out) hb);have n4_ := Yd (below_step (Y3 HB.out) hb);clear HO396;clear HO400;clear HO403;clear HO408;clear HB;have HO396 := n0_;have HO400 := n1_;have HO403 := n2_;have HO408 := n3_;have HB := n4_;clear n0_ n1_ n2_ n3_ n4_;(try clear hb);(try clear hb2);(try clear hk);(try clear hi);obtain ⟨Ao99,co99,eo99⟩ := Kd.R_slice HO400.out;subst eo99))
      go_ret
      exact ⟨by first | rfl | (simp [errW_none,errW_some] <;> rfl) | (simp [*,errW_none,errW_some] <;> rfl),Y3 HB.out⟩
     ·replace c82 := Bool.eq_false_iff.mpr c82
      subst c82
      have H1 : (none) = some r := by rw [if_neg (show ¬ (false = true) by decide)] at H;exact H
      clear H
      have H := H1
      clear H1
      exact absurd H (by simp)
end Go.Proofs.Ytcdjhdfjkfbgdaa.PD56
namespace Go.Proofs.YtcdjhdfjkfbgdaaX
open Go.RowKit
def Evn {α : Type} (g : Nat → Option α) (v : α) : Prop := ∃ n, ∀ k, n ≤ k → g k = some v
theorem Evn.const {α : Type} (v : α) : Evn (fun _ => some v) v := ⟨0, fun _ _ => rfl⟩
theorem Evn.of {α : Type} {g : Option α} {v : α} (h : g = some v) : Evn (fun _ => g) v := ⟨0, fun _ _ => h⟩
theorem Evn.of_eq {α : Type} {g : Nat → Option α} {v u : α} (h : Evn g v) (e : v = u) : Evn g u := e ▸ h
theorem Evn.ex {α : Type} {g : Nat → Option α} {v : α} (h : Evn g v) : ∃ k, g k = some v := by
 obtain ⟨n, hn⟩ := h
 exact ⟨n, hn n (Nat.le_refl _)⟩
theorem Evn.step {α : Type} {f g : Nat → Option α} {v : α} (h : ∀ k, f (k + 1) = g k) (hg : Evn g v) : Evn f v := by
 obtain ⟨n, hn⟩ := hg
 refine ⟨n + 1, fun k hk => ?_⟩
 obtain ⟨j, rfl⟩ : ∃ j, k = j + 1 := ⟨k - 1, by omega⟩
 rw [h]
 exact hn j (by omega)
theorem Evn.congr {α : Type} {f g : Nat → Option α} {v : α} (h : ∀ k, f k = g k) (hg : Evn g v) : Evn f v := by
 obtain ⟨n, hn⟩ := hg
 exact ⟨n, fun k hk => (h k).trans (hn k hk)⟩
theorem Evn.bind {α β : Type} {g : Nat → Option α} {h : Nat → α → Option β} {v : α} {u : β} (hg : Evn g v) (hh : Evn (fun k => h k v) u) : Evn (fun k => (g k).bind (h k)) u := by
 obtain ⟨n, hn⟩ := hg
 obtain ⟨m, hm⟩ := hh
 refine ⟨max n m, fun k hk => ?_⟩
 show (g k).bind (h k) = some u
 rw [hn k (by omega)]
 exact hm k (by omega)
theorem Evn.ite {α : Type} {c : Prop} [Decidable c] {f g : Nat → Option α} {v : α} (h1 : c → Evn f v) (h2 : ¬ c → Evn g v) : Evn (fun k => if c then f k else g k) v := by
 by_cases h : c
 ·simp only [if_pos h]; exact h1 h
 ·simp only [if_neg h]; exact h2 h
theorem Evn.pos {α : Type} {c : Prop} [Decidable c] {f g : Nat → Option α} {v : α} (hc : c) (h : Evn f v) : Evn (fun k => if c then f k else g k) v := by
 simp only [if_pos hc]; exact h
theorem Evn.neg {α : Type} {c : Prop} [Decidable c] {f g : Nat → Option α} {v : α} (hc : ¬ c) (h : Evn g v) : Evn (fun k => if c then f k else g k) v := by
 simp only [if_neg hc]; exact h
theorem Evn.uniq {α : Type} {g : Nat → Option α} {v u : α} (h : Evn g v) (h2 : Evn g u) : v = u := by
 obtain ⟨n, hn⟩ := h
 obtain ⟨m, hm⟩ := h2
 have e1 := hn (max n m) (by omega)
 have e2 := hm (max n m) (by omega)
 rw [e1] at e2
 exact Option.some.inj e2
theorem w64 {n : Int} (h1 : -9223372036854775808 ≤ n) (h2 : n ≤ 9223372036854775807) : wrap64 n = n := by unfold wrap64; omega
theorem search1 {α : Type} (bad : Nat → Prop) (f : Nat → Int → Option α) (n : Nat) {e : α} (hbad : ∀ i : Nat, i < n → bad i → Evn (fun k => f k (i : Int)) e)
  (hnext : ∀ i : Nat, i < n → ¬ bad i → ∀ u, Evn (fun k => f k ((i : Int) + 1)) u → Evn (fun k => f k (i : Int)) u) : ∀ (m i : Nat), i + m = n → (∃ j, i ≤ j ∧ j < n ∧ bad j) → Evn (fun k => f k (i : Int)) e
 | 0, i, hm, h => by
  obtain ⟨j, h1, h2, _⟩ := h
  omega
 | m + 1, i, hm, h => by
  by_cases hb : bad i
  ·exact hbad i (by omega) hb
  ·refine hnext i (by omega) hb _ (search1 bad f n hbad hnext m (i + 1) (by omega) ?_)
   obtain ⟨j, h1, h2, h3⟩ := h
   refine ⟨j, ?_, h2, h3⟩
   rcases Nat.lt_or_eq_of_le h1 with h4 | rfl
   ·omega
   ·exact absurd h3 hb
open Classical in
theorem search {α : Type} (bad : Nat → Prop) (f : Nat → Int → Option α) (n : Nat) {e v : α} (hend : Evn (fun k => f k (n : Int)) v) (hbad : ∀ i : Nat, i < n → bad i → Evn (fun k => f k (i : Int)) e)
  (hnext : ∀ i : Nat, i < n → ¬ bad i → ∀ u, Evn (fun k => f k ((i : Int) + 1)) u → Evn (fun k => f k (i : Int)) u) : ∀ (m i : Nat), i + m = n → Evn (fun k => f k (i : Int)) (if ∃ j, i ≤ j ∧ j < n ∧ bad j then e else v)
 | 0, i, hm => by
  rw [if_neg (by rintro ⟨j, h1, h2, _⟩; omega)]
  obtain rfl : i = n := by omega
  exact hend
 | m + 1, i, hm => by
  by_cases hb : bad i
  ·rw [if_pos ⟨i, Nat.le_refl _, by omega, hb⟩]
   exact hbad i (by omega) hb
  ·have ih := search bad f n hend hbad hnext m (i + 1) (by omega)
   refine hnext i (by omega) hb _ ?_
   refine Evn.of_eq ih ?_
   by_cases h : ∃ j, i ≤ j ∧ j < n ∧ bad j
   ·rw [if_pos h, if_pos]
    obtain ⟨j, h1, h2, h3⟩ := h
    refine ⟨j, ?_, h2, h3⟩
    rcases Nat.lt_or_eq_of_le h1 with h4 | rfl
    ·omega
    ·exact absurd h3 hb
   ·rw [if_neg h, if_neg]
    rintro ⟨j, h1, h2, h3⟩
    exact h ⟨j, by omega, h2, h3⟩
theorem find (bad : Nat → Prop) (f : Nat → Int → Option Int) (n : Nat) (hend : Evn (fun k => f k (n : Int)) (-1)) (hbad : ∀ i : Nat, i < n → bad i → Evn (fun k => f k (i : Int)) (i : Int))
  (hnext : ∀ i : Nat, i < n → ¬ bad i → ∀ u, Evn (fun k => f k ((i : Int) + 1)) u → Evn (fun k => f k (i : Int)) u) : ∀ (m i : Nat), i + m = n → ∃ r : Int, Evn (fun k => f k (i : Int)) r ∧ (0 ≤ r ↔ ∃ j, i ≤ j ∧ j < n ∧ bad j)
 | 0, i, hm => by
  obtain rfl : i = n := by omega
  refine ⟨-1, hend, ⟨fun h => by omega, ?_⟩⟩
  rintro ⟨j, h1, h2, _⟩
  omega
 | m + 1, i, hm => by
  by_cases hb : bad i
  ·exact ⟨i, hbad i (by omega) hb, ⟨fun _ => ⟨i, Nat.le_refl _, by omega, hb⟩, fun _ => by omega⟩⟩
  ·obtain ⟨r, hr, he⟩ := find bad f n hend hbad hnext m (i + 1) (by omega)
   refine ⟨r, hnext i (by omega) hb r hr, he.trans ⟨?_, ?_⟩⟩
   ·rintro ⟨j, h1, h2, h3⟩
    exact ⟨j, by omega, h2, h3⟩
   ·rintro ⟨j, h1, h2, h3⟩
    refine ⟨j, ?_, h2, h3⟩
    rcases Nat.lt_or_eq_of_le h1 with h4 | rfl
    ·omega
    ·exact absurd h3 hb
theorem fold {σ α : Type} (f : Nat → σ → Int → Option α) (st : Nat → σ) (n : Nat) {v : α} (hend : Evn (fun k => f k (st n) (n : Int)) v)
  (hstep : ∀ i : Nat, i < n → ∀ u, Evn (fun k => f k (st (i + 1)) ((i : Int) + 1)) u → Evn (fun k => f k (st i) (i : Int)) u) : ∀ (m i : Nat), i + m = n → Evn (fun k => f k (st i) (i : Int)) v
 | 0, i, hm => by
  obtain rfl : i = n := by omega
  exact hend
 | m + 1, i, hm => hstep i (by omega) v (fold f st n hend hstep m (i + 1) (by omega))
end Go.Proofs.YtcdjhdfjkfbgdaaX
namespace Go.Proofs.Ytcdjhdfjkfbgdaa.PD56
open Go.RowKit Go.Proofs.YtcdjhdfjkfbgdaaW.PrintWords Go.Proofs.YtcdjhdfjkfbgdaaW.PrintLast Go.Proofs.YtcdjhdfjkfbgdaaW.PrintMore
open Go.Proofs.YtcdjhdfjkfbgdaaX
theorem bal (s : ByteArray) : s.toList = s.data.toList := ByteArray.toList_eq s
theorem bless : ∀ (x y : List UInt8), Op.bytesLess x y = true ↔ x < y
 | _, [] => by simp [Op.bytesLess]
 | [], _ :: _ => by simp [Op.bytesLess]
 | a :: x, b :: y => by
  have ih := bless x y
  rw [List.cons_lt_cons_iff]
  simp [Op.bytesLess, ih]
theorem dec_eq {p q : Prop} {i : Decidable p} {j : Decidable q} (h : p ↔ q) : @decide p i = @decide q j := by
 by_cases hp : p
 ·simp [hp, h.1 hp]
 ·have hq : ¬ q := fun hq => hp (h.2 hq)
  simp [hp, hq]
abbrev okc (c : Int) : Prop := (97 ≤ c ∧ c ≤ 122) ∨ (48 ≤ c ∧ c ≤ 57) ∨ c = 95
theorem name1_val (s : ByteArray) (i : Int) (h0 : 0 ≤ i) (h1 : i < (s.size : Int)) : lexer_Name_1_.f i s = some (decide (okc (bt s i))) := by
 simp only [lexer_Name_1_.f, lexer_digit.f, if_pos h0, if_pos h1]
 generalize bt s i = c
 have e : ∀ b : Bool, (b = true ↔ okc c) → b = decide (okc c) := fun b hb => by rw [Bool.eq_iff_iff, hb, decide_eq_true_eq]
 by_cases h1 : c ≥ 97
 ·by_cases h2 : c ≤ 122
  ·rw [if_pos h1, if_pos h2, ← e true (by simp; omega)]
  ·rw [if_pos h1, if_neg h2, if_pos (show c ≥ 48 by omega)]
   simp only [Option.bind_some, decide_eq_false (show ¬ c ≤ 57 by omega), Bool.false_eq_true, if_false]
   rw [← e (c == 95) (by simp; omega)]
 ·rw [if_neg h1]
  by_cases h3 : c ≥ 48
  ·rw [if_pos h3]
   by_cases h4 : c ≤ 57
   ·simp only [Option.bind_some, decide_eq_true h4, if_true]
    rw [← e true (by simp; omega)]
   ·simp only [Option.bind_some, decide_eq_false h4, Bool.false_eq_true, if_false]
    rw [← e (c == 95) (by simp; omega)]
  ·rw [if_neg h3]
   simp only [Option.bind_some, Bool.false_eq_true, if_false]
   rw [← e (c == 95) (by simp; omega)]
def okFrom (s : ByteArray) (i : Int) : Prop := ∀ j : Int, i ≤ j → j < (s.size : Int) → okc (bt s j)
theorem run_val (s : ByteArray) (hs : s.size ≤ 9223372036854775807) : ∀ (m : Nat) (i : Int), 0 ≤ i → i + m = (s.size : Int) → ∃ r, Evn (fun k => lexer_run__c60.l0 k s i s) r ∧ (r = (s.size : Int) ↔ okFrom s i)
 | 0, i, h0, hm => by
  refine ⟨i, Evn.step (fun k => by rw [lexer_run__c60.l0]) ?_, ?_⟩
  ·exact Evn.neg (by omega) (Evn.const _)
  ·constructor
   ·intro _ j hj hj2
    omega
   ·intro _
    omega
 | m + 1, i, h0, hm => by
  by_cases hc : okc (bt s i)
  ·obtain ⟨r, hr, he⟩ := run_val s hs m (i + 1) (by omega) (by omega)
   refine ⟨r, Evn.step (fun k => by rw [lexer_run__c60.l0]) ?_, he.trans ?_⟩
   ·refine Evn.pos (by omega) (Evn.bind (Evn.of (name1_val s i h0 (by omega))) ?_)
    simp only [hc, decide_true, if_true]
    rw [w64 (by omega) (by omega)]
    exact hr
   ·constructor
    ·intro h j hj hj2
     rcases Int.lt_or_eq_of_le hj with h3 | rfl
     ·exact h j (by omega) hj2
     ·exact hc
    ·intro h j hj hj2
     exact h j (by omega) hj2
  ·refine ⟨i, Evn.step (fun k => by rw [lexer_run__c60.l0]) ?_, ?_⟩
   ·refine Evn.pos (by omega) (Evn.bind (Evn.of (name1_val s i h0 (by omega))) ?_)
    simp only [hc, decide_false, Bool.false_eq_true, if_false]
    exact Evn.const _
   ·constructor
    ·intro h
     omega
    ·intro h
     exact absurd (h i (by omega) (by omega)) hc
def NameOk (s : ByteArray) : Prop := 1 ≤ (s.size : Int) ∧ (s.size : Int) ≤ 24 ∧ 97 ≤ bt s 0 ∧ bt s 0 ≤ 122 ∧ okFrom s 0
open Classical in
theorem lexName_val (s : ByteArray) (hs : s.size ≤ 9223372036854775807) : Evn (fun k => lexer_Name.f k s) (decide (NameOk s)) := by
 have hj : ∀ b : Bool, Evn (fun k => lexer_Name.j0 k b s) (decide (b = false ∧ okFrom s 0)) := by
  intro b
  refine Evn.step (fun k => by rw [lexer_Name.j0]) ?_
  cases b with
  | true => exact Evn.pos rfl (Evn.of_eq (Evn.const _) (by simp))
  | false =>
   obtain ⟨r, hr, he⟩ := run_val s hs s.size 0 (Int.le_refl _) (by omega)
   refine Evn.neg (by simp) (Evn.bind (v := r) hr (Evn.of_eq (Evn.const _) ?_))
   rw [Bool.eq_iff_iff]
   simp [he]
 unfold lexer_Name.f
 by_cases h1 : (s.size : Int) < 1
 ·exact Evn.pos h1 (Evn.of_eq (hj true) (dec_eq ⟨fun h => absurd h.1 (by simp), fun h => by have := h.1; omega⟩))
 ·refine Evn.neg h1 ?_
  by_cases h2 : (s.size : Int) > 24
  ·exact Evn.pos h2 (Evn.of_eq (hj true) (dec_eq ⟨fun h => absurd h.1 (by simp), fun h => by have := h.2.1; omega⟩))
  ·refine Evn.neg h2 (Evn.pos (by omega) ?_)
   by_cases h3 : bt s 0 < 97
   ·exact Evn.pos h3 (Evn.of_eq (hj true) (dec_eq ⟨fun h => absurd h.1 (by simp), fun h => by have := h.2.2.1; omega⟩))
   ·refine Evn.neg h3 (Evn.of_eq (hj _) (dec_eq ?_))
    rw [decide_eq_false_iff_not]
    constructor
    ·rintro ⟨h4, h5⟩
     exact ⟨by omega, by omega, by omega, by omega, h5⟩
    ·rintro ⟨_, _, _, h4, h5⟩
     exact ⟨by omega, h5⟩
open Classical in
theorem refNameL (s : ByteArray) (hs : s.size ≤ 9223372036854775807) : ∀ (m : Nat) (i : Int), 0 ≤ i → i + m = (s.size : Int) → Evn (fun k => plenumref07_Name.l0 k s i) (decide (okFrom s i))
 | 0, i, h0, hm => by
  refine Evn.step (fun k => by rw [plenumref07_Name.l0]) (Evn.neg (by omega) (Evn.of_eq (Evn.const _) ?_))
  symm
  rw [decide_eq_true_eq]
  intro j hj hj2
  omega
 | m + 1, i, h0, hm => by
  have ih := refNameL s hs m (i + 1) (by omega) (by omega)
  have hw : wrap64 (i + 1) = i + 1 := w64 (by omega) (by omega)
  have hj : ∀ b : Bool, (b = false ↔ okc (bt s i)) → Evn (fun k => plenumref07_Name.j2 k s i b) (decide (okFrom s i)) := by
   intro b hb
   refine Evn.step (fun k => by rw [plenumref07_Name.j2]) ?_
   cases b with
   | true =>
    refine Evn.pos rfl (Evn.of_eq (Evn.const _) ?_)
    symm
    rw [decide_eq_false_iff_not]
    intro h
    exact absurd (hb.2 (h i (by omega) (by omega))) (by simp)
   | false =>
    refine Evn.neg (by simp) ?_
    rw [hw]
    refine Evn.of_eq ih ?_
    rw [Bool.eq_iff_iff]
    simp only [decide_eq_true_eq]
    constructor
    ·intro h j hj hj2
     rcases Int.lt_or_eq_of_le hj with h3 | rfl
     ·exact h j (by omega) hj2
     ·exact hb.1 rfl
    ·intro h j hj hj2
     exact h j (by omega) hj2
  refine Evn.step (fun k => by rw [plenumref07_Name.l0]) (Evn.pos (by omega) (Evn.pos h0 ?_))
  simp only [plenumref07_Lower.f, plenumref07_Digit.f]
  generalize hc : bt s i = c at hj
  unfold okc at hj
  by_cases h1 : c ≥ 97
  ·by_cases h2 : c ≤ 122
   ·simp only [if_pos h1, Option.bind_some, decide_eq_true h2, if_true]
    exact hj false (by simp; omega)
   ·simp only [if_pos h1, Option.bind_some, decide_eq_false h2, Bool.false_eq_true, if_false]
    rw [if_pos (show c ≥ 48 by omega)]
    simp only [Option.bind_some, decide_eq_false (show ¬ c ≤ 57 by omega), Bool.false_eq_true, if_false]
    exact hj _ (by simp; omega)
  ·simp only [if_neg h1, Option.bind_some, Bool.false_eq_true, if_false]
   by_cases h3 : c ≥ 48
   ·by_cases h4 : c ≤ 57
    ·simp only [if_pos h3, Option.bind_some, decide_eq_true h4, if_true]
     exact hj false (by simp; omega)
    ·simp only [if_pos h3, Option.bind_some, decide_eq_false h4, Bool.false_eq_true, if_false]
     exact hj _ (by simp; omega)
   ·simp only [if_neg h3, Option.bind_some, Bool.false_eq_true, if_false]
    exact hj _ (by simp; omega)
open Classical in
theorem refName_val (s : ByteArray) (hs : s.size ≤ 9223372036854775807) : Evn (fun k => plenumref07_Name.f k s) (decide (NameOk s)) := by
 have hj : ∀ b : Bool, (b = false → 1 ≤ (s.size : Int)) → Evn (fun k => plenumref07_Name.j0 k s b) (decide (b = false ∧ okFrom s 1)) := by
  intro b h1
  refine Evn.step (fun k => by rw [plenumref07_Name.j0]) ?_
  cases b with
  | true => exact Evn.pos rfl (Evn.of_eq (Evn.const _) (by simp))
  | false =>
   have := h1 rfl
   refine Evn.neg (by simp) (Evn.of_eq (refNameL s hs (s.size - 1) 1 (by omega) (by omega)) (by simp))
 unfold plenumref07_Name.f
 by_cases h1 : (s.size : Int) < 1
 ·exact Evn.pos h1 (Evn.of_eq (hj true (by simp)) (dec_eq ⟨fun h => absurd h.1 (by simp), fun h => by have := h.1; omega⟩))
 ·refine Evn.neg h1 ?_
  by_cases h2 : (s.size : Int) > 24
  ·exact Evn.pos h2 (Evn.of_eq (hj true (by simp)) (dec_eq ⟨fun h => absurd h.1 (by simp), fun h => by have := h.2.1; omega⟩))
  ·refine Evn.neg h2 (Evn.pos (by omega) ?_)
   refine Evn.bind (v := decide (97 ≤ bt s 0 ∧ bt s 0 ≤ 122)) (Evn.of ?_) (Evn.of_eq (hj _ (fun _ => by omega)) (dec_eq ?_))
   ·unfold plenumref07_Lower.f
    by_cases h3 : bt s 0 ≥ 97
    ·simp [h3]
    ·simp [h3]
   ·rw [Bool.not_eq_false', decide_eq_true_eq]
    constructor
    ·rintro ⟨⟨h3, h4⟩, h5⟩
     refine ⟨by omega, by omega, h3, h4, fun j hj hj2 => ?_⟩
     rcases Int.lt_or_eq_of_le hj with h6 | rfl
     ·exact h5 j (by omega) hj2
     ·exact .inl ⟨h3, h4⟩
    ·rintro ⟨_, _, h3, h4, h5⟩
     exact ⟨⟨h3, h4⟩, fun j hj hj2 => h5 j (by omega) hj2⟩
end Go.Proofs.Ytcdjhdfjkfbgdaa.PD56
namespace Go.Proofs.Ytcdjhdfjkfbgdaa.PD56
open Go.RowKit Go.Proofs.YtcdjhdfjkfbgdaaW.PrintWords Go.Proofs.YtcdjhdfjkfbgdaaW.PrintLast Go.Proofs.YtcdjhdfjkfbgdaaW.PrintMore
open Go.Proofs.YtcdjhdfjkfbgdaaX
abbrev ld (L : List S43) (i : Nat) : S43 := L.getD i z43
theorem rd_nat (L : List S43) (i : Nat) : rd_T43 L (i : Int) = ld L i := by
 unfold rd_T43
 rw [Int.toNat_natCast]
def rangeOk (x : S43) : Prop := (1 ≤ x.f1 ∧ x.f1 ≤ 100) ∧ (0 ≤ x.f2 ∧ x.f2 ≤ 15625000000) ∧ (0 ≤ x.f3 ∧ x.f3 ≤ 86400) ∧ (0 ≤ x.f4 ∧ x.f4 ≤ 86400)
def bad4 (L : List S43) : Prop := ∃ i, 0 ≤ i ∧ i < L.length ∧ ¬ NameOk (ld L i).f0
def bad5 (L : List S43) : Prop := ∃ i, 0 ≤ i ∧ i < L.length ∧ ∃ j, 0 ≤ j ∧ j < i ∧ (ld L i).f0.toList = (ld L j).f0.toList
def bad6 (L : List S43) : Prop := ∃ i, 0 ≤ i ∧ i < L.length ∧ ¬ rangeOk (ld L i)
open Classical in
noncomputable def checkV (L : List S43) : Int := if (L.length : Int) > 64 then 7 else if bad4 L then 4 else if bad5 L then 5 else if bad6 L then 6 else 0
def Sized (L : List S43) : Prop := ∀ i, (ld L i).f0.size ≤ 9223372036854775807
theorem btw_val (a lo hi : Int) : demand_between_int.f a lo hi = some (decide (lo ≤ a ∧ a ≤ hi)) := by
 unfold demand_between_int.f
 by_cases h1 : lo ≤ a
 ·simp [h1]
 ·simp [h1]
theorem btw64_val (a lo hi : Int) : demand_between_int64.f a lo hi = some (decide (lo ≤ a ∧ a ≤ hi)) := by
 unfold demand_between_int64.f
 by_cases h1 : lo ≤ a
 ·simp [h1]
 ·simp [h1]
open Classical in
theorem dup_val (L : List S43) (hL : L.length ≤ 64) (x : S43) : Evn (fun k => api_Load__c47.f k L x.f0 x.f1 x.f2 x.f3 x.f4) (decide (∃ j, 0 ≤ j ∧ j < L.length ∧ x.f0.toList = (ld L j).f0.toList)) := by
 have step : ∀ i : Nat, i < L.length → ∀ u, Evn (fun k => if ((ld L i).f0.toList == x.f0.toList) = true then some (i : Int) else api_Load__c47_.l0 k L (L.length : Int) ((i : Int) + 1) x.f0 x.f1 x.f2 x.f3 x.f4) u → Evn (fun k => api_Load__c47_.l0 k L (L.length : Int) (i : Int) x.f0 x.f1 x.f2 x.f3 x.f4) u := by
  intro i hi u hu
  refine Evn.step (fun k => by rw [api_Load__c47_.l0]) (Evn.pos (by omega) (Evn.pos (by omega) (Evn.pos (by omega) ?_)))
  refine Evn.bind (v := ((ld L i).f0.toList == x.f0.toList)) (Evn.of ?_) ?_
  ·rw [rd_nat]
   rfl
  ·rw [w64 (by omega) (by omega)]
   exact hu
 obtain ⟨r, hr, he⟩ := find (fun j => x.f0.toList = (ld L j).f0.toList) (fun k i => api_Load__c47_.l0 k L (L.length : Int) i x.f0 x.f1 x.f2 x.f3 x.f4) L.length
  (Evn.step (fun k => by rw [api_Load__c47_.l0]) (Evn.neg (by omega) (Evn.const _)))
  (fun i hi hb => step i hi _ (Evn.pos (by simp [hb]) (Evn.const _)))
  (fun i hi hb u hu => step i hi _ (Evn.neg (by simpa using fun h => hb h.symm) hu)) L.length 0 (by omega)
 refine Evn.bind (v := r) hr (Evn.of_eq (Evn.const _) (dec_eq ?_))
 exact he
open Classical in
theorem check_dem (L : List S43) (hs : Sized L) : Evn (fun k => demand_Check.f k L) (checkV L) := by
 unfold checkV
 by_cases h7 : (L.length : Int) > 64
 ·rw [if_pos h7]
  exact Evn.pos h7 (Evn.const _)
 ·rw [if_neg h7]
  have h6 : Evn (fun k => demand_Check.l2 k L (L.length : Int) 0) (if bad6 L then 6 else 0) := by
   have step : ∀ i : Nat, i < L.length → ∀ u, Evn (fun k => if rangeOk (ld L i) then demand_Check.l2 k L (L.length : Int) ((i : Int) + 1) else some 6) u → Evn (fun k => demand_Check.l2 k L (L.length : Int) (i : Int)) u := by
    intro i hi u hu
    have hj : ∀ b : Bool, (b = false ↔ rangeOk (ld L i)) → Evn (fun k => demand_Check.j3 k L (L.length : Int) (i : Int) b) u := by
     intro b hb
     refine Evn.step (fun k => by rw [demand_Check.j3]) ?_
     cases b with
     | true =>
      refine Evn.pos rfl ?_
      rw [show (fun k => if rangeOk (ld L i) then demand_Check.l2 k L (L.length : Int) ((i : Int) + 1) else some 6) = fun _ => some 6 from by funext k; rw [if_neg (fun h => by simpa using hb.2 h)]] at hu
      exact hu
     | false =>
      refine Evn.neg (by simp) ?_
      rw [w64 (by omega) (by omega)]
      simp only [if_pos (hb.1 rfl)] at hu
      exact hu
    refine Evn.step (fun k => by rw [demand_Check.l2]) (Evn.pos (by omega) (Evn.pos (by omega) (Evn.pos (by omega) ?_)))
    simp only [btw_val, btw64_val, rd_nat, Option.bind_some, decide_eq_true_eq]
    unfold rangeOk at hj
    by_cases q1 : 1 ≤ (ld L i).f1 ∧ (ld L i).f1 ≤ 100
    ·simp only [if_pos q1]
     by_cases q2 : 0 ≤ (ld L i).f2 ∧ (ld L i).f2 ≤ 15625000000
     ·simp only [if_pos q2]
      by_cases q3 : 0 ≤ (ld L i).f3 ∧ (ld L i).f3 ≤ 86400
      ·simp only [if_pos q3]
       refine hj _ ?_
       rw [Bool.not_eq_false', decide_eq_true_eq]
       exact ⟨fun h => ⟨q1, q2, q3, h⟩, fun h => h.2.2.2⟩
      ·simp only [if_neg q3]
       exact hj true ⟨fun h => by simp at h, fun h => absurd h.2.2.1 q3⟩
     ·simp only [if_neg q2]
      exact hj true ⟨fun h => by simp at h, fun h => absurd h.2.1 q2⟩
    ·simp only [if_neg q1]
     exact hj true ⟨fun h => by simp at h, fun h => absurd h.1 q1⟩
   exact search (fun i => ¬ rangeOk (ld L i)) (fun k i => demand_Check.l2 k L (L.length : Int) i) L.length
    (Evn.step (fun k => by rw [demand_Check.l2]) (Evn.neg (by omega) (Evn.const _)))
    (fun i hi hb => step i hi _ (Evn.neg hb (Evn.const _))) (fun i hi hb u hu => step i hi _ (Evn.pos (Classical.not_not.1 hb) hu)) L.length 0 (by omega)
  have h5 : Evn (fun k => demand_Check.l1 k L L (L.length : Int) 0) (if bad5 L then 5 else if bad6 L then 6 else 0) := by
   have step : ∀ i : Nat, i < L.length → ∀ u, Evn (fun k => if ∃ j, 0 ≤ j ∧ j < i ∧ (ld L i).f0.toList = (ld L j).f0.toList then some 5 else demand_Check.l1 k L L (L.length : Int) ((i : Int) + 1)) u → Evn (fun k => demand_Check.l1 k L L (L.length : Int) (i : Int)) u := by
    intro i hi u hu
    refine Evn.step (fun k => by rw [demand_Check.l1]) (Evn.pos (by omega) (Evn.pos (by omega) (Evn.pos (by omega) (Evn.pos (by omega) ?_))))
    rw [rd_nat, Int.toNat_natCast]
    refine Evn.bind (dup_val (L.take i) (by rw [List.length_take]; omega) (ld L i)) ?_
    rw [w64 (by omega) (by omega)]
    have e : (∃ j, 0 ≤ j ∧ j < (L.take i).length ∧ (ld L i).f0.toList = (ld (L.take i) j).f0.toList) ↔ (∃ j, 0 ≤ j ∧ j < i ∧ (ld L i).f0.toList = (ld L j).f0.toList) := by
     have e2 : ∀ j, j < i → ld (L.take i) j = ld L j := fun j hj => by
      unfold ld
      rw [List.getD_eq_getElem?_getD, List.getD_eq_getElem?_getD, List.getElem?_take_of_lt hj]
     have e3 : (L.take i).length = i := by rw [List.length_take]; omega
     rw [e3]
     constructor
     ·rintro ⟨j, h1, h2, h3⟩
      exact ⟨j, h1, h2, by rw [← e2 j h2]; exact h3⟩
     ·rintro ⟨j, h1, h2, h3⟩
      exact ⟨j, h1, h2, by rw [e2 j h2]; exact h3⟩
    simp only [decide_eq_true_eq, e]
    exact hu
   exact search (fun i => ∃ j, 0 ≤ j ∧ j < i ∧ (ld L i).f0.toList = (ld L j).f0.toList) (fun k i => demand_Check.l1 k L L (L.length : Int) i) L.length
    (Evn.step (fun k => by rw [demand_Check.l1]) (Evn.neg (by omega) h6))
    (fun i hi hb => step i hi _ (Evn.pos hb (Evn.const _))) (fun i hi hb u hu => step i hi _ (Evn.neg hb hu)) L.length 0 (by omega)
  unfold demand_Check.f
  refine Evn.neg h7 ?_
  have step : ∀ i : Nat, i < L.length → ∀ u, Evn (fun k => if NameOk (ld L i).f0 then demand_Check.l0 k L L (L.length : Int) ((i : Int) + 1) else some 4) u → Evn (fun k => demand_Check.l0 k L L (L.length : Int) (i : Int)) u := by
   intro i hi u hu
   refine Evn.step (fun k => by rw [demand_Check.l0]) (Evn.pos (by omega) (Evn.pos (by omega) (Evn.pos (by omega) ?_)))
   rw [rd_nat]
   refine Evn.bind (lexName_val _ (hs i)) ?_
   rw [w64 (by omega) (by omega)]
   simp only [decide_eq_true_eq]
   exact hu
  exact search (fun i => ¬ NameOk (ld L i).f0) (fun k i => demand_Check.l0 k L L (L.length : Int) i) L.length
   (Evn.step (fun k => by rw [demand_Check.l0]) (Evn.neg (by omega) h5))
   (fun i hi hb => step i hi _ (Evn.neg hb (Evn.const _))) (fun i hi hb u hu => step i hi _ (Evn.pos (Classical.not_not.1 hb) hu)) L.length 0 (by omega)
open Classical in
theorem check_ref (L : List S43) (hs : Sized L) : Evn (fun k => plenumref56_Check.f k L) (checkV L) := by
 unfold checkV
 by_cases h7 : (L.length : Int) > 64
 ·rw [if_pos h7]
  exact Evn.pos h7 (Evn.const _)
 ·rw [if_neg h7]
  have h6 : Evn (fun k => plenumref56_Check.l3 k L 0) (if bad6 L then 6 else 0) := by
   have step : ∀ i : Nat, i < L.length → ∀ u, Evn (fun k => if rangeOk (ld L i) then plenumref56_Check.l3 k L ((i : Int) + 1) else some 6) u → Evn (fun k => plenumref56_Check.l3 k L (i : Int)) u := by
    intro i hi u hu
    refine Evn.step (fun k => by rw [plenumref56_Check.l3]) (Evn.pos (by omega) (Evn.pos (by omega) ?_))
    refine Evn.bind (v := decide (rangeOk (ld L i))) (Evn.of ?_) ?_
    ·rw [rd_nat]
     unfold plenumref56_ranges.f
     have e : ∀ b : Bool, (b = true ↔ rangeOk (ld L i)) → some b = some (decide (rangeOk (ld L i))) := fun b hb => by
      congr 1
      rw [Bool.eq_iff_iff, hb, decide_eq_true_eq]
     unfold rangeOk at e ⊢
     repeat' split
     all_goals refine e _ ?_
     all_goals simp only [decide_eq_true_eq, Bool.false_eq_true]
     all_goals first | omega | (refine ⟨False.elim, fun h => ?_⟩; omega)
    ·rw [w64 (by omega) (by omega)]
     simp only [decide_eq_true_eq]
     exact hu
   exact search (fun i => ¬ rangeOk (ld L i)) (fun k i => plenumref56_Check.l3 k L i) L.length
    (Evn.step (fun k => by rw [plenumref56_Check.l3]) (Evn.neg (by omega) (Evn.const _)))
    (fun i hi hb => step i hi _ (Evn.neg hb (Evn.const _))) (fun i hi hb u hu => step i hi _ (Evn.pos (Classical.not_not.1 hb) hu)) L.length 0 (by omega)
  have h5 : Evn (fun k => plenumref56_Check.l1 k L 0) (if bad5 L then 5 else if bad6 L then 6 else 0) := by
   have step : ∀ i : Nat, i < L.length → ∀ u, Evn (fun k => if ∃ j, 0 ≤ j ∧ j < i ∧ (ld L i).f0.toList = (ld L j).f0.toList then some 5 else plenumref56_Check.l1 k L ((i : Int) + 1)) u → Evn (fun k => plenumref56_Check.l1 k L (i : Int)) u := by
    intro i hi u hu
    refine Evn.step (fun k => by rw [plenumref56_Check.l1]) (Evn.pos (by omega) ?_)
    have step2 : ∀ j : Nat, j < i → ∀ u, Evn (fun k => if (ld L i).f0.toList = (ld L j).f0.toList then some 5 else plenumref56_Check.l2 k L (i : Int) ((j : Int) + 1)) u → Evn (fun k => plenumref56_Check.l2 k L (i : Int) (j : Int)) u := by
     intro j hj u hu
     refine Evn.step (fun k => by rw [plenumref56_Check.l2]) (Evn.pos (by omega) (Evn.pos (by omega) (Evn.pos (by omega) (Evn.pos (by omega) (Evn.pos (by omega) ?_)))))
     rw [rd_nat, rd_nat, w64 (by omega) (by omega)]
     exact hu
    have hbad : ∀ j : Nat, j < i → (ld L i).f0.toList = (ld L j).f0.toList → Evn (fun k => plenumref56_Check.l2 k L (i : Int) (j : Int)) 5 := fun j hj h => step2 j hj _ (Evn.pos h (Evn.const _))
    have hnext : ∀ j : Nat, j < i → ¬ (ld L i).f0.toList = (ld L j).f0.toList → ∀ v, Evn (fun k => plenumref56_Check.l2 k L (i : Int) ((j : Int) + 1)) v → Evn (fun k => plenumref56_Check.l2 k L (i : Int) (j : Int)) v := fun j hj h v hv => step2 j hj _ (Evn.neg h hv)
    by_cases hb : ∃ j, 0 ≤ j ∧ j < i ∧ (ld L i).f0.toList = (ld L j).f0.toList
    ·simp only [if_pos hb] at hu
     have e : (5 : Int) = u := Evn.uniq (Evn.const 5) hu
     exact Evn.of_eq (search1 (fun j => (ld L i).f0.toList = (ld L j).f0.toList) (fun k j => plenumref56_Check.l2 k L (i : Int) j) i hbad hnext i 0 (by omega) hb) e
    ·simp only [if_neg hb] at hu
     have hend : Evn (fun k => plenumref56_Check.l2 k L (i : Int) (i : Int)) u := by
      refine Evn.step (fun k => by rw [plenumref56_Check.l2]) (Evn.neg (by omega) ?_)
      rw [w64 (by omega) (by omega)]
      exact hu
     have h2 := search (e := 5) (fun j => (ld L i).f0.toList = (ld L j).f0.toList) (fun k j => plenumref56_Check.l2 k L (i : Int) j) i hend hbad hnext i 0 (by omega)
     rw [if_neg hb] at h2
     exact h2
   exact search (fun i => ∃ j, 0 ≤ j ∧ j < i ∧ (ld L i).f0.toList = (ld L j).f0.toList) (fun k i => plenumref56_Check.l1 k L i) L.length
    (Evn.step (fun k => by rw [plenumref56_Check.l1]) (Evn.neg (by omega) h6))
    (fun i hi hb => step i hi _ (Evn.pos hb (Evn.const _))) (fun i hi hb u hu => step i hi _ (Evn.neg hb hu)) L.length 0 (by omega)
  unfold plenumref56_Check.f
  refine Evn.neg h7 ?_
  have step : ∀ i : Nat, i < L.length → ∀ u, Evn (fun k => if NameOk (ld L i).f0 then plenumref56_Check.l0 k L ((i : Int) + 1) else some 4) u → Evn (fun k => plenumref56_Check.l0 k L (i : Int)) u := by
   intro i hi u hu
   refine Evn.step (fun k => by rw [plenumref56_Check.l0]) (Evn.pos (by omega) (Evn.pos (by omega) ?_))
   rw [rd_nat]
   refine Evn.bind (refName_val _ (hs i)) ?_
   rw [w64 (by omega) (by omega)]
   simp only [decide_eq_true_eq]
   exact hu
  exact search (fun i => ¬ NameOk (ld L i).f0) (fun k i => plenumref56_Check.l0 k L i) L.length
   (Evn.step (fun k => by rw [plenumref56_Check.l0]) (Evn.neg (by omega) h5))
   (fun i hi hb => step i hi _ (Evn.neg hb (Evn.const _))) (fun i hi hb u hu => step i hi _ (Evn.pos (Classical.not_not.1 hb) hu)) L.length 0 (by omega)
end Go.Proofs.Ytcdjhdfjkfbgdaa.PD56
namespace Go.Proofs.Ytcdjhdfjkfbgdaa.PD56
open Go.RowKit Go.Proofs.YtcdjhdfjkfbgdaaW.PrintWords Go.Proofs.YtcdjhdfjkfbgdaaW.PrintLast Go.Proofs.YtcdjhdfjkfbgdaaW.PrintMore
open Go.Proofs.YtcdjhdfjkfbgdaaX
theorem ocf_swo (L : List S43) : Go.Sort.SWO (fun x y : Int => decide (ocf L x y < 0)) where
 irrefl x := by simp [ocf_lt]
 trans x y z h1 h2 := by
  rw [decide_eq_true_eq, ocf_lt] at h1 h2 ⊢
  rcases h1 with h1 | ⟨e1, h1 | ⟨e1', h1⟩⟩ <;> rcases h2 with h2 | ⟨e2, h2 | ⟨e2', h2⟩⟩
  all_goals first
   | (refine .inl ?_; omega)
   | (refine .inr ⟨by omega, .inl ?_⟩; omega)
   | exact .inr ⟨by omega, .inr ⟨by omega, List.lt_trans h1 h2⟩⟩
 ntrans x y z h1 h2 := by
  rw [decide_eq_false_iff_not, ocf_lt] at h1 h2 ⊢
  intro h
  apply h1
  rcases h with h | ⟨e, h | ⟨e', h⟩⟩
  ·by_cases hy : (rd_T43 L y).f1 < (rd_T43 L x).f1
   ·exact .inl hy
   ·exact absurd (.inl (by omega)) h2
  ·by_cases hy : (rd_T43 L y).f1 < (rd_T43 L x).f1
   ·exact .inl hy
   ·by_cases hz : (rd_T43 L z).f1 < (rd_T43 L y).f1
    ·exact absurd (.inl hz) h2
    ·by_cases hy2 : (rd_T43 L y).f2 < (rd_T43 L x).f2
     ·exact .inr ⟨by omega, .inl hy2⟩
     ·exact absurd (.inr ⟨by omega, .inl (by omega)⟩) h2
  ·by_cases hy : (rd_T43 L y).f1 < (rd_T43 L x).f1
   ·exact .inl hy
   ·by_cases hz : (rd_T43 L z).f1 < (rd_T43 L y).f1
    ·exact absurd (.inl hz) h2
    ·by_cases hy2 : (rd_T43 L y).f2 < (rd_T43 L x).f2
     ·exact .inr ⟨by omega, .inl hy2⟩
     ·by_cases hz2 : (rd_T43 L z).f2 < (rd_T43 L y).f2
      ·exact absurd (.inr ⟨by omega, .inl (by omega)⟩) h2
      ·by_cases hy3 : (rd_T43 L x).f0.data.toList < (rd_T43 L y).f0.data.toList
       ·exact .inr ⟨by omega, .inr ⟨by omega, hy3⟩⟩
       ·exact absurd (.inr ⟨by omega, .inr ⟨by omega, List.lt_of_le_of_lt (List.not_lt.1 hy3) h⟩⟩) h2
def bef (L : List S43) (a b : Int) : Prop := ocf L a b < 0
theorem bef_trans {L : List S43} {a b c : Int} (h1 : bef L a b) (h2 : bef L b c) : bef L a c := by
 have := (ocf_swo L).trans a b c (by simpa [bef] using h1) (by simpa [bef] using h2)
 simpa [bef] using this
theorem bef_irrefl (L : List S43) (a : Int) : ¬ bef L a a := by
 have := (ocf_swo L).irrefl a
 simpa [bef] using this
theorem bef_asymm {L : List S43} {a b : Int} (h1 : bef L a b) : ¬ bef L b a := fun h2 => bef_irrefl L a (bef_trans h1 h2)
theorem names_nodup {L : List S43} (h5 : ¬ bad5 L) : (L.map (·.f0.data.toList)).Nodup := by
 have hne : ∀ i j : Nat, j < i → i < L.length → (ld L i).f0.toList ≠ (ld L j).f0.toList := fun i j hj hi e => h5 ⟨i, Nat.zero_le _, hi, j, Nat.zero_le _, hj, e⟩
 have hg : ∀ (i : Nat) (hi : i < (L.map (·.f0.data.toList)).length), (L.map (·.f0.data.toList))[i] = (ld L i).f0.toList := by
  intro i hi
  have hi' : i < L.length := by simpa using hi
  rw [bal, List.getElem_map]
  unfold ld
  rw [List.getD_eq_getElem?_getD, List.getElem?_eq_getElem hi']
  rfl
 unfold List.Nodup
 rw [List.pairwise_iff_getElem]
 intro i j hi hj hij e
 rw [hg i hi, hg j hj] at e
 exact hne j i hij (by simpa using hj) e.symm
theorem bef_total {L : List S43} (h5 : ¬ bad5 L) {a b : Int} (ha : 0 ≤ a ∧ a < (L.length : Int)) (hb : 0 ≤ b ∧ b < (L.length : Int)) (h1 : ¬ bef L a b) (h2 : ¬ bef L b a) : a = b := by
 obtain ⟨i, rfl⟩ := Int.eq_ofNat_of_zero_le ha.1
 obtain ⟨j, rfl⟩ := Int.eq_ofNat_of_zero_le hb.1
 have hi : i < L.length := by omega
 have hj : j < L.length := by omega
 have := order_anti L (names_nodup h5) ⟨i, hi⟩ ⟨j, hj⟩ h1 h2
 have e := congrArg Fin.val this
 simp only at e
 omega
def rng (n : Nat) : List Int := (List.range n).map (fun i : Nat => (i : Int))
theorem mem_rng {n : Nat} {a : Int} : a ∈ rng n ↔ 0 ≤ a ∧ a < (n : Int) := by
 unfold rng
 rw [List.mem_map]
 constructor
 ·rintro ⟨i, hi, rfl⟩
  have := List.mem_range.1 hi
  omega
 ·rintro ⟨h0, h1⟩
  exact ⟨a.toNat, List.mem_range.2 (by omega), by omega⟩
theorem len_rng (n : Nat) : (rng n).length = n := by simp [rng]
theorem rng_succ (n : Nat) : rng (n + 1) = rng n ++ [(n : Int)] := by simp [rng, List.range_succ]
def ordV (L : List S43) : List Int := (rng L.length).mergeSort (fun x y => decide (0 ≤ ocf L y x))
theorem ordV_perm (L : List S43) : (ordV L).Perm (rng L.length) := List.mergeSort_perm _ _
theorem ordV_mem {L : List S43} {a : Int} (h : a ∈ ordV L) : 0 ≤ a ∧ a < (L.length : Int) := mem_rng.1 ((ordV_perm L).mem_iff.1 h)
theorem ordV_len (L : List S43) : (ordV L).length = L.length := by rw [(ordV_perm L).length_eq, len_rng]
theorem ordV_nodup (L : List S43) : (ordV L).Nodup := by
 refine (ordV_perm L).nodup_iff.2 ?_
 unfold rng List.Nodup
 rw [List.pairwise_iff_getElem]
 intro i j hi hj hij
 simp
 omega
theorem sorted_eq {L : List S43} (h5 : ¬ bad5 L) {l : List Int} (hp : l.Perm (rng L.length)) (hs : l.Pairwise (bef L)) : l = ordV L := by
 have hin : ∀ a, a ∈ l → 0 ≤ a ∧ a < (L.length : Int) := fun a ha => mem_rng.1 (hp.mem_iff.1 ha)
 refine List.Perm.eq_of_pairwise (le := fun x y => decide (0 ≤ ocf L y x) = true) ?_ ?_ ?_ (hp.trans (ordV_perm L).symm)
 ·intro a b ha hb h1 h2
  simp only [decide_eq_true_eq] at h1 h2
  exact bef_total h5 (hin a ha) (ordV_mem hb) (by unfold bef; omega) (by unfold bef; omega)
 ·refine hs.imp ?_
  intro a b h
  have := bef_asymm h
  unfold bef at this
  simp only [decide_eq_true_eq]
  omega
 ·unfold ordV
  refine List.pairwise_mergeSort ?_ ?_ _
  ·intro a b c h1 h2
   have := (ocf_swo L).ntrans c b a (by simp at h2 ⊢; omega) (by simp at h1 ⊢; omega)
   simp at this ⊢
   omega
  ·intro a b
   by_cases h : ocf L b a < 0
   ·have := bef_asymm (L := L) (a := b) (b := a) h
    unfold bef at this
    simp
    omega
   ·simp
    omega
theorem order_dem (L : List S43) (h64 : L.length ≤ 64) (h5 : ¬ bad5 L) : Evn (fun k => demand_order.f k L) (ordV L) := by
 unfold demand_order.f
 refine Evn.pos (by omega) (Evn.pos (by omega) ?_)
 simp only [Option.bind_some, Int.toNat_natCast, List.length_replicate]
 obtain ⟨st, hst⟩ : ∃ st : Nat → List Int, st = fun i => (List.range L.length).map (fun j : Nat => if j < i then (j : Int) else 0) := ⟨_, rfl⟩
 have hl : ∀ i, (st i).length = L.length := by intro i; simp [hst]
 have h0 : List.replicate L.length 0 = st 0 := by
  rw [hst]
  apply List.ext_getElem
  ·simp
  ·intro i h1 h2
   simp
 have hn : st L.length = rng L.length := by
  rw [hst]
  unfold rng
  apply List.map_congr_left
  intro i hi
  rw [if_pos (List.mem_range.1 hi)]
 have hsucc : ∀ i, i < L.length → (st i).set i (i : Int) = st (i + 1) := by
  intro i hi
  rw [hst]
  apply List.ext_getElem
  ·simp
  ·intro j h1 h2
   rw [List.getElem_set]
   simp only [List.getElem_map, List.getElem_range]
   by_cases hij : i = j
   ·subst hij
    simp
   ·rw [if_neg hij]
    by_cases hji : j < i
    ·rw [if_pos hji, if_pos (by omega)]
    ·rw [if_neg hji, if_neg (by omega)]
 rw [h0]
 refine fold (fun k s i => demand_order.l0 k s (L.length : Int) i L) st L.length ?_ ?_ L.length 0 (by omega)
 ·refine Evn.step (fun k => by rw [demand_order.l0]) (Evn.neg (by omega) ?_)
  refine Evn.bind (v := ordV L) (Evn.of ?_) (Evn.const _)
  rw [hn]
  unfold slices_SortFunc_int_int__c40.f
  have hall : ((rng L.length).all fun a => decide (0 ≤ a) && decide (a < (L.length : Int))) = true := by
   rw [List.all_eq_true]
   intro a ha
   have := mem_rng.1 ha
   simp [this.1, this.2]
  exact if_pos ⟨by rw [len_rng]; omega, hall, names_nodup h5⟩
 ·intro i hi u hu
  refine Evn.step (fun k => by rw [demand_order.l0]) (Evn.pos (by omega) (Evn.pos (by omega) (Evn.pos (by rw [hl]; omega) ?_)))
  rw [Int.toNat_natCast, hsucc i hi, w64 (by omega) (by omega)]
  exact hu
theorem before_val (L : List S43) (a b : Int) : plenumref56_before.f (rd_T43 L a).f0 (rd_T43 L a).f1 (rd_T43 L a).f2 (rd_T43 L a).f3 (rd_T43 L a).f4 (rd_T43 L b).f0 (rd_T43 L b).f1 (rd_T43 L b).f2 (rd_T43 L b).f3 (rd_T43 L b).f4 = some (decide (ocf L a b < 0)) := by
 have e : ∀ x : Bool, (x = true ↔ ocf L a b < 0) → some x = some (decide (ocf L a b < 0)) := fun x hx => by
  congr 1
  rw [Bool.eq_iff_iff, hx, decide_eq_true_eq]
 unfold plenumref56_before.f
 by_cases h1 : (rd_T43 L a).f1 = (rd_T43 L b).f1
 ·rw [if_pos h1]
  by_cases h2 : (rd_T43 L a).f2 = (rd_T43 L b).f2
  ·rw [if_pos h2]
   refine e _ ?_
   rw [bal, bal, bless, ocf_lt]
   constructor
   ·intro h
    exact .inr ⟨h1, .inr ⟨h2, h⟩⟩
   ·rintro (h | ⟨_, h | ⟨_, h⟩⟩)
    ·omega
    ·omega
    ·exact h
  ·rw [if_neg h2]
   refine e _ ?_
   rw [decide_eq_true_eq, ocf_lt]
   constructor
   ·intro h
    exact .inr ⟨h1, .inl h⟩
   ·rintro (h | ⟨_, h | ⟨h, _⟩⟩)
    ·omega
    ·exact h
    ·exact absurd h h2
 ·rw [if_neg h1]
  refine e _ ?_
  rw [decide_eq_true_eq, ocf_lt]
  constructor
  ·intro h
   exact .inl h
  ·rintro (h | ⟨h, _⟩)
   ·exact h
   ·exact absurd h h1
theorem rdI (l : List Int) (i : Nat) (h : i < l.length) : rd l (i : Int) = l[i] := by
 unfold rd
 rw [Int.toNat_natCast, List.getD_eq_getElem?_getD, List.getElem?_eq_getElem h]
 rfl
theorem order_ref (L : List S43) (h64 : L.length ≤ 64) (h5 : ¬ bad5 L) : Evn (fun k => plenumref56_Order.f k L) (ordV L) := by
 have outer : ∀ (m i : Nat) (out : List Int), i + m = L.length → out.Perm (rng i) → out.Pairwise (bef L) → Evn (fun k => plenumref56_Order.l0 k L out (i : Int)) (ordV L) := by
  intro m
  induction m with
  | zero =>
   intro i out hm hp hs
   obtain rfl : i = L.length := by omega
   refine Evn.step (fun k => by rw [plenumref56_Order.l0]) (Evn.neg (by omega) (Evn.of_eq (Evn.const _) (sorted_eq h5 hp hs)))
  | succ m ih =>
   intro i out hm hp hs
   have hi : i < L.length := by omega
   have hlen : out.length = i := by rw [hp.length_eq, len_rng]
   have hin : ∀ a, a ∈ out → 0 ≤ a ∧ a < (i : Int) := fun a ha => mem_rng.1 (hp.mem_iff.1 ha)
   refine Evn.step (fun k => by rw [plenumref56_Order.l0]) (Evn.pos (by omega) ?_)
   have ins : ∀ p : Nat, p ≤ out.length → (∀ j (hj : j < out.length), j < p → bef L out[j] (i : Int)) → (∀ hp : p < out.length, ¬ bef L out[p] (i : Int)) →
     Evn (fun k => plenumref56_Order.l0 k L ([] ++ out.take p ++ [(i : Int)] ++ out.drop p) (wrap64 ((i : Int) + 1))) (ordV L) := by
    intro p hp1 hlo hhi
    rw [w64 (by omega) (by omega), show ((i : Int) + 1) = ((i + 1 : Nat) : Int) by omega, List.nil_append]
    refine ih (i + 1) _ (by omega) ?_ ?_
    ·rw [rng_succ, List.append_assoc]
     refine (List.perm_middle (a := (i : Int)) (l₁ := out.take p) (l₂ := out.drop p)).trans ?_
     rw [List.take_append_drop]
     exact ((List.Perm.cons _ hp).trans (List.perm_append_singleton _ _).symm)
    ·have hlow : ∀ a, a ∈ out.take p → bef L a (i : Int) := by
      intro a ha
      obtain ⟨j, hj, rfl⟩ := List.getElem_of_mem ha
      rw [List.length_take] at hj
      rw [List.getElem_take]
      exact hlo j (by omega) (by omega)
     have hhigh : ∀ a, a ∈ out.drop p → bef L (i : Int) a := by
      intro a ha
      obtain ⟨j, hj, rfl⟩ := List.getElem_of_mem ha
      rw [List.length_drop] at hj
      rw [List.getElem_drop]
      have hp2 : p < out.length := by omega
      have hfirst : bef L (i : Int) out[p] := by
       have hm2 := hin out[p] (List.getElem_mem hp2)
       by_cases h : bef L (i : Int) out[p]
       ·exact h
       ·have := bef_total h5 (a := out[p]) (b := (i : Int)) ⟨hm2.1, by omega⟩ ⟨by omega, by omega⟩ (hhi hp2) h
        omega
      rcases Nat.eq_zero_or_pos j with rfl | hj0
      ·exact hfirst
      ·have := (List.pairwise_iff_getElem.1 hs) p (p + j) hp2 (by omega) (by omega)
       exact bef_trans hfirst this
     rw [List.append_assoc, List.pairwise_append]
     refine ⟨hs.sublist (List.take_sublist _ _), ?_, ?_⟩
     ·show ((i : Int) :: out.drop p).Pairwise (bef L)
      rw [List.pairwise_cons]
      exact ⟨hhigh, hs.sublist (List.drop_sublist _ _)⟩
     ·intro a ha b hb
      rcases List.mem_cons.1 hb with rfl | hb
      ·exact hlow a ha
      ·exact bef_trans (hlow a ha) (hhigh b hb)
   have inner : ∀ (q p : Nat), p + q = out.length → (∀ j (hj : j < out.length), j < p → bef L out[j] (i : Int)) → Evn (fun k => plenumref56_Order.l1 k L out (i : Int) (p : Int)) (ordV L) := by
    intro q
    induction q with
    | zero =>
     intro p hpq hlo
     refine Evn.step (fun k => by rw [plenumref56_Order.l1]) (Evn.neg (by omega) ?_)
     simp only [Option.bind_some, Int.toNat_natCast]
     refine Evn.pos (by omega) (Evn.pos (by omega) (Evn.pos ?_ (Evn.pos ?_ (Evn.pos ?_ (ins p (by omega) hlo (fun hp => by omega))))))
     all_goals simp only [List.length_append, List.length_take, List.length_drop, List.length_nil, List.length_singleton]; omega
    | succ q ih2 =>
     intro p hpq hlo
     have hp2 : p < out.length := by omega
     have hm2 := hin out[p] (List.getElem_mem hp2)
     refine Evn.step (fun k => by rw [plenumref56_Order.l1]) (Evn.pos (by omega) (Evn.pos (by omega) ?_))
     simp only [rdI out p hp2]
     refine Evn.pos (by omega) (Evn.pos (by omega) (Evn.pos (by omega) (Evn.pos (by omega) ?_)))
     refine Evn.bind (Evn.of (before_val L out[p] (i : Int))) ?_
     by_cases hb : ocf L out[p] (i : Int) < 0
     ·simp only [decide_eq_true hb, if_true]
      rw [w64 (by omega) (by omega), show ((p : Int) + 1) = ((p + 1 : Nat) : Int) by omega]
      refine ih2 (p + 1) (by omega) ?_
      intro j hj hjp
      rcases Nat.lt_succ_iff_lt_or_eq.1 hjp with h | rfl
      ·exact hlo j hj h
      ·exact hb
     ·simp only [decide_eq_false hb, Bool.false_eq_true, if_false, Option.bind_some, Int.toNat_natCast]
      refine Evn.pos (by omega) (Evn.pos ?_ (Evn.pos ?_ (Evn.pos ?_ (ins p (by omega) hlo (fun _ => hb)))))
      all_goals simp only [List.length_append, List.length_take, List.length_drop, List.length_nil, List.length_singleton]; omega
   exact inner out.length 0 (by omega) (fun j hj h => by omega)
 exact outer L.length 0 [] (by omega) (by simp [rng]) List.Pairwise.nil
end Go.Proofs.Ytcdjhdfjkfbgdaa.PD56
namespace Go.Proofs.Ytcdjhdfjkfbgdaa.PD56
open Go.RowKit Go.Proofs.YtcdjhdfjkfbgdaaW.PrintWords Go.Proofs.YtcdjhdfjkfbgdaaW.PrintLast Go.Proofs.YtcdjhdfjkfbgdaaW.PrintMore
attribute [local go_sem] max2_int min2_int max_two min_two max_three min_three max_four min_four
end Go.Proofs.Ytcdjhdfjkfbgdaa.PD56
namespace Go.Proofs.Ytcdjhdfjkfbgdaa.PD56
open Go.RowKit Go.Proofs.YtcdjhdfjkfbgdaaW.PrintWords Go.Proofs.YtcdjhdfjkfbgdaaW.PrintLast Go.Proofs.YtcdjhdfjkfbgdaaW.PrintMore
open Go.Proofs.YtcdjhdfjkfbgdaaX
def to51 (s : S59) : S51 := ⟨s.f0, s.f1⟩
def to59 (s : S51) : S59 := ⟨s.f0, s.f1⟩
abbrev sd (S : List S59) (i : Nat) : S59 := S.getD i z59
theorem rd59 (S : List S59) (i : Nat) : rd_T59 S (i : Int) = sd S i := by
 unfold rd_T59
 rw [Int.toNat_natCast]
theorem rd51 (S : List S59) (i : Nat) : rd_T51 (S.map to51) (i : Int) = to51 (sd S i) := by
 unfold rd_T51 sd
 rw [Int.toNat_natCast, List.getD_eq_getElem?_getD, List.getD_eq_getElem?_getD, List.getElem?_map]
 cases S[i]? <;> rfl
def Fit (L : List S43) : Prop := L.length ≤ 64 ∧ ∀ i, i < L.length → rangeOk (ld L i)
theorem fit_of {L : List S43} (h : checkV L = 0) : Fit L ∧ ¬ bad5 L := by
 unfold checkV at h
 split at h
 ·simp at h
 ·split at h
  ·simp at h
  ·split at h
   ·simp at h
   ·split at h
    ·simp at h
    ·rename_i h1 h2 h3 h4
     refine ⟨⟨by omega, fun i hi => ?_⟩, h3⟩
     exact Classical.not_not.1 fun hn => h4 ⟨i, Nat.zero_le _, hi, hn⟩
def pw (L : List S43) (sh : Nat → Bool) : Nat → Int
 | 0 => 0
 | i + 1 => pw L sh i + if sh i = true then 0 else (ld L i).f2
theorem pw_bound {L : List S43} (hf : Fit L) (sh : Nat → Bool) : ∀ i, i ≤ L.length → 0 ≤ pw L sh i ∧ pw L sh i ≤ i * 15625000000
 | 0, _ => ⟨Int.le_refl _, by simp [pw]⟩
 | i + 1, hi => by
  have ih := pw_bound hf sh i (by omega)
  have hr := (hf.2 i (by omega)).2.1
  unfold pw
  split <;> omega
theorem pw_lim {L : List S43} (hf : Fit L) (sh : Nat → Bool) (i : Nat) (hi : i ≤ L.length) : 0 ≤ pw L sh i ∧ pw L sh i ≤ 1000000000000 := by
 have := pw_bound hf sh i hi
 have := hf.1
 omega
theorem pw_congr {L : List S43} {sh sh' : Nat → Bool} : ∀ {i : Nat}, (∀ j, j < i → sh j = sh' j) → pw L sh i = pw L sh' i
 | 0, _ => rfl
 | i + 1, h => by
  unfold pw
  rw [pw_congr (fun j hj => h j (by omega)), h i (by omega)]
theorem pw_set {L : List S43} {sh sh' : Nat → Bool} {a : Nat} (h : ∀ j, j ≠ a → sh' j = sh j) : ∀ n, a < n → pw L sh' n = pw L sh n - (if sh a = true then 0 else (ld L a).f2) + (if sh' a = true then 0 else (ld L a).f2)
 | 0, ha => by omega
 | n + 1, ha => by
  rcases Nat.lt_succ_iff_lt_or_eq.1 ha with h1 | rfl
  ·have ih := pw_set (L := L) h n h1
   unfold pw
   rw [ih, h n (by omega)]
   omega
  ·have e := pw_congr (L := L) (sh := sh') (sh' := sh) (i := a) (fun j hj => h j (by omega))
   unfold pw
   rw [e]
   omega
def shOf (S : List S59) (j : Nat) : Bool := (sd S j).f0
def PW (L : List S43) (S : List S59) : Int := pw L (shOf S) L.length
theorem power_ref {L : List S43} (hf : Fit L) (S : List S59) (hl : S.length = L.length) : Evn (fun k => plenumref56_Power.f k L S) (PW L S) := by
 have h64 := hf.1
 refine fold (fun k s i => plenumref56_Power.l0 k L S s i) (pw L (shOf S)) L.length ?_ ?_ L.length 0 (by omega)
 ·refine Evn.step (fun k => by rw [plenumref56_Power.l0]) (Evn.neg (by omega) ?_)
  exact Evn.of_eq (Evn.const _) rfl
 ·intro i hi u hu
  have hb := pw_lim hf (shOf S) i (by omega)
  have hb2 := pw_lim hf (shOf S) (i + 1) (by omega)
  have hr := (hf.2 i hi).2.1
  refine Evn.step (fun k => by rw [plenumref56_Power.l0]) (Evn.pos (by omega) (Evn.pos (by omega) (Evn.pos (by omega) ?_)))
  rw [rd59, rd_nat, w64 (n := (i : Int) + 1) (by omega) (by omega), w64 (by omega) (by omega)]
  by_cases hs : (sd S i).f0 = true
  ·refine Evn.pos hs ?_
   have e : pw L (shOf S) (i + 1) = pw L (shOf S) i := by
    show pw L (shOf S) i + (if shOf S i = true then 0 else (ld L i).f2) = _
    rw [if_pos (show shOf S i = true from hs)]; omega
   rw [e] at hu
   exact hu
  ·refine Evn.neg hs ?_
   have e : pw L (shOf S) (i + 1) = pw L (shOf S) i + (ld L i).f2 := by
    show pw L (shOf S) i + (if shOf S i = true then 0 else (ld L i).f2) = _
    rw [if_neg (show ¬ shOf S i = true from hs)]
   rw [e] at hu
   exact hu
theorem power_dem {L : List S43} (hf : Fit L) (S : List S59) (hl : S.length = L.length) : Evn (fun k => demand_power.f k L (S.map to51)) (PW L S) := by
 have h64 := hf.1
 refine fold (fun k s i => demand_power.l0 k (S.map to51) s L (L.length : Int) i) (pw L (shOf S)) L.length ?_ ?_ L.length 0 (by omega)
 ·refine Evn.step (fun k => by rw [demand_power.l0]) (Evn.neg (by omega) ?_)
  exact Evn.of_eq (Evn.const _) rfl
 ·intro i hi u hu
  have hb := pw_lim hf (shOf S) i (by omega)
  have hb2 := pw_lim hf (shOf S) (i + 1) (by omega)
  have hr := (hf.2 i hi).2.1
  refine Evn.step (fun k => by rw [demand_power.l0]) (Evn.pos (by omega) (Evn.pos (by omega) (Evn.pos (by omega) (Evn.pos (by simp; omega) ?_))))
  rw [rd51, rd_nat, w64 (n := (i : Int) + 1) (by omega) (by omega), w64 (by omega) (by omega)]
  by_cases hs : (sd S i).f0 = true
  ·refine Evn.pos hs ?_
   have e : pw L (shOf S) (i + 1) = pw L (shOf S) i := by
    show pw L (shOf S) i + (if shOf S i = true then 0 else (ld L i).f2) = _
    rw [if_pos (show shOf S i = true from hs)]; omega
   rw [e] at hu
   exact hu
  ·refine Evn.neg hs ?_
   have e : pw L (shOf S) (i + 1) = pw L (shOf S) i + (ld L i).f2 := by
    show pw L (shOf S) i + (if shOf S i = true then 0 else (ld L i).f2) = _
    rw [if_neg (show ¬ shOf S i = true from hs)]
   rw [e] at hu
   exact hu
theorem ours_val (S : List S59) (hl : S.length ≤ 70) : Evn (fun k => plenumlaw56_ours.f k S) (S.map to51) := by
 refine fold (fun k s i => plenumlaw56_ours.l0 k S s i) (fun i => (S.take i).map to51) S.length ?_ ?_ S.length 0 (by omega)
 ·refine Evn.step (fun k => by rw [plenumlaw56_ours.l0]) (Evn.neg (by omega) (Evn.of_eq (Evn.const _) ?_))
  simp
 ·intro i hi u hu
  refine Evn.step (fun k => by rw [plenumlaw56_ours.l0]) (Evn.pos (by omega) (Evn.pos (by omega) (Evn.pos (by simp; omega) ?_)))
  rw [rd59, w64 (by omega) (by omega)]
  have e : (S.take (i + 1)).map to51 = (S.take i).map to51 ++ [(⟨(sd S i).f0, (sd S i).f1⟩ : S51)] := by
   rw [List.take_succ_eq_append_getElem hi, List.map_append]
   unfold sd
   rw [List.getD_eq_getElem?_getD, List.getElem?_eq_getElem hi]
   rfl
  simp only [e] at hu
  exact hu
theorem theirs_val (S : List S59) (hl : S.length ≤ 70) : Evn (fun k => plenumlaw56_theirs.f k (S.map to51)) S := by
 refine fold (fun k s i => plenumlaw56_theirs.l0 k (S.map to51) s i) (fun i => S.take i) S.length ?_ ?_ S.length 0 (by omega)
 ·refine Evn.step (fun k => by rw [plenumlaw56_theirs.l0]) (Evn.neg (by simp) (Evn.of_eq (Evn.const _) ?_))
  simp
 ·intro i hi u hu
  refine Evn.step (fun k => by rw [plenumlaw56_theirs.l0]) (Evn.pos (by simp; omega) (Evn.pos (by omega) (Evn.pos (by simp; omega) ?_)))
  rw [rd51, w64 (by omega) (by omega)]
  have e : S.take (i + 1) = S.take i ++ [(⟨(to51 (sd S i)).f0, (to51 (sd S i)).f1⟩ : S59)] := by
   rw [List.take_succ_eq_append_getElem hi]
   unfold sd
   rw [List.getD_eq_getElem?_getD, List.getElem?_eq_getElem hi]
   rfl
  simp only [e] at hu
  exact hu
theorem same_val (S : List S59) (hl : S.length ≤ 70) : Evn (fun k => plenumref56_Same.f k S S) true := by
 unfold plenumref56_Same.f
 refine Evn.pos rfl ?_
 refine fold (fun k (_ : Unit) i => plenumref56_Same.l0 k S S i) (fun _ => ()) S.length ?_ ?_ S.length 0 (by omega)
 ·exact Evn.step (fun k => by rw [plenumref56_Same.l0]) (Evn.neg (by omega) (Evn.const _))
 ·intro i hi u hu
  refine Evn.step (fun k => by rw [plenumref56_Same.l0]) (Evn.pos (by omega) (Evn.pos (by omega) (Evn.pos (by omega) (Evn.neg (by simp) ?_))))
  rw [w64 (by omega) (by omega)]
  exact hu
def badSince (s : S59) : Prop := ¬ (0 ≤ s.f1 ∧ s.f1 ≤ 6311433599)
def badNow (S : List S59) : Prop := ∃ i, 0 ≤ i ∧ i < S.length ∧ badSince (sd S i)
def late (S : List S59) (now : Int) : Prop := ∃ i, 0 ≤ i ∧ i < S.length ∧ (sd S i).f1 > now
open Classical in
noncomputable def readyV (L : List S43) (S : List S59) (now : Int) : Int :=
 if S.length = L.length ∧ (0 ≤ now ∧ now ≤ 6311433599) then if badNow S then 1 else if late S now then 8 else 0 else 1
open Classical in
theorem ready_ref (L : List S43) (S : List S59) (now : Int) (hl : S.length ≤ 70) : Evn (fun k => plenumref56_Ready.f k L S now) (readyV L S now) := by
 have hj : ∀ b : Bool, Evn (fun k => plenumref56_Ready.j0 k S now b) (if b = true then 1 else if badNow S then 1 else if late S now then 8 else 0) := by
  intro b
  refine Evn.step (fun k => by rw [plenumref56_Ready.j0]) ?_
  cases b with
  | true => exact Evn.pos rfl (Evn.of_eq (Evn.const _) (by simp))
  | false =>
   refine Evn.neg (by simp) ?_
   rw [if_neg (by simp)]
   have h1 : Evn (fun k => plenumref56_Ready.l1 k S now 0) (if late S now then 8 else 0) := by
    have step : ∀ i : Nat, i < S.length → ∀ u, Evn (fun k => if (sd S i).f1 > now then some 8 else plenumref56_Ready.l1 k S now ((i : Int) + 1)) u → Evn (fun k => plenumref56_Ready.l1 k S now (i : Int)) u := by
     intro i hi u hu
     refine Evn.step (fun k => by rw [plenumref56_Ready.l1]) (Evn.pos (by omega) (Evn.pos (by omega) ?_))
     rw [rd59, w64 (by omega) (by omega)]
     exact hu
    exact search (fun i => (sd S i).f1 > now) (fun k i => plenumref56_Ready.l1 k S now i) S.length
     (Evn.step (fun k => by rw [plenumref56_Ready.l1]) (Evn.neg (by omega) (Evn.const _)))
     (fun i hi hb => step i hi _ (Evn.pos hb (Evn.const _))) (fun i hi hb u hu => step i hi _ (Evn.neg hb hu)) S.length 0 (by omega)
   have step : ∀ i : Nat, i < S.length → ∀ u, Evn (fun k => if badSince (sd S i) then some 1 else plenumref56_Ready.l0 k S now ((i : Int) + 1)) u → Evn (fun k => plenumref56_Ready.l0 k S now (i : Int)) u := by
    intro i hi u hu
    refine Evn.step (fun k => by rw [plenumref56_Ready.l0]) (Evn.pos (by omega) (Evn.pos (by omega) ?_))
    rw [rd59, w64 (by omega) (by omega)]
    unfold badSince at hu
    by_cases h1 : (sd S i).f1 < 0
    ·simp only [if_pos (show ¬ (0 ≤ (sd S i).f1 ∧ (sd S i).f1 ≤ 6311433599) by omega)] at hu
     exact Evn.pos h1 hu
    ·refine Evn.neg h1 ?_
     by_cases h2 : (sd S i).f1 > 6311433599
     ·simp only [if_pos (show ¬ (0 ≤ (sd S i).f1 ∧ (sd S i).f1 ≤ 6311433599) by omega)] at hu
      exact Evn.pos h2 hu
     ·simp only [if_neg (show ¬ ¬ (0 ≤ (sd S i).f1 ∧ (sd S i).f1 ≤ 6311433599) by omega)] at hu
      exact Evn.neg h2 hu
   exact search (fun i => badSince (sd S i)) (fun k i => plenumref56_Ready.l0 k S now i) S.length
    (Evn.step (fun k => by rw [plenumref56_Ready.l0]) (Evn.neg (by omega) h1))
    (fun i hi hb => step i hi _ (Evn.pos hb (Evn.const _))) (fun i hi hb u hu => step i hi _ (Evn.neg hb hu)) S.length 0 (by omega)
 unfold plenumref56_Ready.f readyV
 by_cases h1 : (S.length : Int) = (L.length : Int)
 ·refine Evn.pos h1 ?_
  by_cases h2 : now < 0
  ·refine Evn.pos h2 (Evn.of_eq (hj true) ?_)
   rw [if_pos rfl, if_neg (show ¬ (S.length = L.length ∧ (0 ≤ now ∧ now ≤ 6311433599)) by omega)]
  ·refine Evn.neg h2 (Evn.of_eq (hj _) ?_)
   by_cases h3 : now > 6311433599
   ·rw [if_pos (by simpa using h3), if_neg (show ¬ (S.length = L.length ∧ (0 ≤ now ∧ now ≤ 6311433599)) by omega)]
   ·rw [if_neg (by simpa using h3), if_pos (show S.length = L.length ∧ (0 ≤ now ∧ now ≤ 6311433599) from ⟨by omega, by omega, by omega⟩)]
 ·refine Evn.neg h1 (Evn.of_eq (hj true) ?_)
  rw [if_pos rfl, if_neg (show ¬ (S.length = L.length ∧ (0 ≤ now ∧ now ≤ 6311433599)) by omega)]
open Classical in
theorem c37_val (S : List S59) (hl : S.length ≤ 70) : Evn (fun k => demand_State__c37.f k (S.map to51)) (decide (badNow S)) := by
 have step : ∀ i : Nat, i < S.length → ∀ u, Evn (fun k => if badSince (sd S i) then some (i : Int) else demand_State__c37_.l0 k (S.map to51) (S.length : Int) ((i : Int) + 1)) u → Evn (fun k => demand_State__c37_.l0 k (S.map to51) (S.length : Int) (i : Int)) u := by
  intro i hi u hu
  refine Evn.step (fun k => by rw [demand_State__c37_.l0]) (Evn.pos (by omega) (Evn.pos (by omega) (Evn.pos (by simp; omega) ?_)))
  rw [rd51, w64 (by omega) (by omega)]
  refine Evn.bind (v := decide (badSince (sd S i))) (Evn.of ?_) ?_
  ·simp only [demand_check_1.f, btw_val, Option.bind_some]
   congr 1
   rw [Bool.eq_iff_iff, Bool.not_eq_true', decide_eq_false_iff_not, decide_eq_true_eq]
   exact Iff.rfl
  ·simp only [decide_eq_true_eq]
   exact hu
 obtain ⟨r, hr, he⟩ := find (fun i => badSince (sd S i)) (fun k i => demand_State__c37_.l0 k (S.map to51) (S.length : Int) i) S.length
  (Evn.step (fun k => by rw [demand_State__c37_.l0]) (Evn.neg (by omega) (Evn.const _)))
  (fun i hi hb => step i hi _ (Evn.pos hb (Evn.const _))) (fun i hi hb u hu => step i hi _ (Evn.neg hb hu)) S.length 0 (by omega)
 refine Evn.bind (v := r) ?_ (Evn.of_eq (Evn.const _) (dec_eq he))
 unfold demand_State__c37_.f
 rw [List.length_map]
 exact hr
open Classical in
theorem c38_val (S : List S59) (now : Int) (hl : S.length ≤ 70) : Evn (fun k => demand_State__c38.f k (S.map to51) now) (decide (late S now)) := by
 have step : ∀ i : Nat, i < S.length → ∀ u, Evn (fun k => if (sd S i).f1 > now then some (i : Int) else demand_State__c38_.l0 k (S.map to51) (S.length : Int) ((i : Int) + 1) now) u → Evn (fun k => demand_State__c38_.l0 k (S.map to51) (S.length : Int) (i : Int) now) u := by
  intro i hi u hu
  refine Evn.step (fun k => by rw [demand_State__c38_.l0]) (Evn.pos (by omega) (Evn.pos (by omega) (Evn.pos (by simp; omega) ?_)))
  rw [rd51, w64 (by omega) (by omega)]
  refine Evn.bind (v := decide ((sd S i).f1 > now)) (Evn.of rfl) ?_
  simp only [decide_eq_true_eq]
  exact hu
 obtain ⟨r, hr, he⟩ := find (fun i => (sd S i).f1 > now) (fun k i => demand_State__c38_.l0 k (S.map to51) (S.length : Int) i now) S.length
  (Evn.step (fun k => by rw [demand_State__c38_.l0]) (Evn.neg (by omega) (Evn.const _)))
  (fun i hi hb => step i hi _ (Evn.pos hb (Evn.const _))) (fun i hi hb u hu => step i hi _ (Evn.neg hb hu)) S.length 0 (by omega)
 refine Evn.bind (v := r) ?_ (Evn.of_eq (Evn.const _) (dec_eq he))
 unfold demand_State__c38_.f
 rw [List.length_map]
 exact hr
def insideP (x : Int) : Prop := -1000000000000 ≤ x ∧ x ≤ 1000000000000
instance (x : Int) : Decidable (insideP x) := inferInstanceAs (Decidable (_ ∧ _))
theorem inside_val (x : Int) : plenumlaw56_inside.f x = some (decide (insideP x)) := by
 unfold plenumlaw56_inside.f
 by_cases h1 : x ≥ -1000000000000
 ·rw [if_pos h1]
  congr 1
  exact dec_eq ⟨fun h => ⟨h1, h⟩, fun h => h.2⟩
 ·rw [if_neg h1]
  congr 1
  symm
  rw [decide_eq_false_iff_not]
  exact fun h => h1 h.1
open Classical in
theorem analog_val (l : List Int) (hl : l.length ≤ 70) : Evn (fun k => demand_analog.f k l) (decide (∀ i : Nat, i < l.length → insideP (rd l i))) := by
 have step : ∀ i : Nat, i < l.length → ∀ u, Evn (fun k => if ¬ insideP (rd l i) then some (i : Int) else slices_IndexFunc_int64_int64__c52.l0 k l (l.length : Int) ((i : Int) + 1)) u → Evn (fun k => slices_IndexFunc_int64_int64__c52.l0 k l (l.length : Int) (i : Int)) u := by
  intro i hi u hu
  refine Evn.step (fun k => by rw [slices_IndexFunc_int64_int64__c52.l0]) (Evn.pos (by omega) (Evn.pos (by omega) (Evn.pos (by omega) ?_)))
  rw [w64 (by omega) (by omega)]
  refine Evn.bind (v := decide (¬ insideP (rd l i))) (Evn.of ?_) ?_
  ·simp only [demand_analog_1.f, btw64_val, Option.bind_some]
   congr 1
   rw [Bool.eq_iff_iff, Bool.not_eq_true', decide_eq_false_iff_not, decide_eq_true_eq]
   exact Iff.rfl
  ·simp only [decide_eq_true_eq]
   exact hu
 obtain ⟨r, hr, he⟩ := find (fun i => ¬ insideP (rd l i)) (fun k i => slices_IndexFunc_int64_int64__c52.l0 k l (l.length : Int) i) l.length
  (Evn.step (fun k => by rw [slices_IndexFunc_int64_int64__c52.l0]) (Evn.neg (by omega) (Evn.const _)))
  (fun i hi hb => step i hi _ (Evn.pos hb (Evn.const _))) (fun i hi hb u hu => step i hi _ (Evn.neg hb hu)) l.length 0 (by omega)
 refine Evn.bind (v := decide (r ≥ 0)) (Evn.bind (v := r) hr (Evn.const _)) (Evn.of_eq (Evn.const _) ?_)
 rw [Bool.eq_iff_iff, Bool.not_eq_true', decide_eq_false_iff_not, decide_eq_true_eq]
 constructor
 ·intro h i hi
  exact Classical.not_not.1 fun hn => h (he.2 ⟨i, Nat.zero_le _, hi, hn⟩)
 ·intro h hr0
  obtain ⟨j, _, h2, h3⟩ := he.1 hr0
  exact h3 (h j h2)
open Classical in
theorem check_val {L : List S43} (hs : Sized L) (S : List S59) (now : Int) (nums : List Int) (hl : S.length ≤ 70) (hn : nums.length ≤ 70) :
  Evn (fun k => demand_check.f k L (S.map to51) now nums) (if checkV L ≠ 0 then checkV L else if ¬ (∀ i : Nat, i < nums.length → insideP (rd nums i)) then 6 else readyV L S now) := by
 have hj : ∀ b : Bool, Evn (fun k => demand_check.j0 k (S.map to51) b now) (if b = true then 1 else if late S now then 8 else 0) := by
  intro b
  refine Evn.step (fun k => by rw [demand_check.j0]) ?_
  cases b with
  | true => exact Evn.pos rfl (Evn.of_eq (Evn.const _) (by simp))
  | false =>
   refine Evn.neg (by simp) (Evn.bind (c38_val S now hl) ?_)
   simp only [decide_eq_true_eq, Bool.false_eq_true, if_false]
   exact Evn.ite (fun h => by rw [if_pos h]; exact Evn.const _) (fun h => by rw [if_neg h]; exact Evn.const _)
 refine Evn.bind (check_dem L hs) ?_
 by_cases h0 : checkV L = 0
 ·refine Evn.pos h0 ?_
  rw [if_neg (by simpa using h0)]
  refine Evn.bind (analog_val nums hn) ?_
  by_cases h1 : ∀ i : Nat, i < nums.length → insideP (rd nums i)
  ·refine Evn.pos (by simpa using h1) ?_
   rw [if_neg (by simpa using h1)]
   unfold readyV
   by_cases h2 : ((S.map to51).length : Int) = (L.length : Int)
   ·refine Evn.pos h2 (Evn.bind (Evn.of (btw_val _ _ _)) ?_)
    have h2' : S.length = L.length := by rw [List.length_map] at h2; omega
    by_cases h3 : 0 ≤ now ∧ now ≤ 6311433599
    ·refine Evn.pos (by simpa using h3) (Evn.bind (c37_val S hl) (Evn.of_eq (hj _) ?_))
     rw [if_pos (show S.length = L.length ∧ (0 ≤ now ∧ now ≤ 6311433599) from ⟨h2', h3⟩)]
     simp only [decide_eq_true_eq]
    ·refine Evn.neg (by simpa using h3) (Evn.of_eq (hj true) ?_)
     rw [if_pos rfl, if_neg (show ¬ (S.length = L.length ∧ (0 ≤ now ∧ now ≤ 6311433599)) from fun h => h3 h.2)]
   ·refine Evn.neg h2 (Evn.of_eq (hj true) ?_)
    rw [if_pos rfl, if_neg (show ¬ (S.length = L.length ∧ (0 ≤ now ∧ now ≤ 6311433599)) from fun h => h2 (by rw [List.length_map, h.1]))]
  ·refine Evn.neg (by simpa using h1) ?_
   rw [if_pos h1]
   exact Evn.const _
 ·refine Evn.neg h0 ?_
  rw [if_pos h0]
  exact Evn.const _
end Go.Proofs.Ytcdjhdfjkfbgdaa.PD56
namespace Go.Proofs.Ytcdjhdfjkfbgdaa.PD56
open Go.RowKit Go.Proofs.YtcdjhdfjkfbgdaaW.PrintWords Go.Proofs.YtcdjhdfjkfbgdaaW.PrintLast Go.Proofs.YtcdjhdfjkfbgdaaW.PrintMore
open Go.Proofs.YtcdjhdfjkfbgdaaX
theorem reverse_val (l : List Int) (hl : l.length ≤ 70) : Evn (fun k => slices_Reverse_int_int.f k l) l.reverse := by
 obtain ⟨st, hst⟩ : ∃ st : Nat → List Int, st = fun i => (List.range l.length).map (fun p : Nat => if p < i ∨ l.length - i ≤ p then l.getD (l.length - 1 - p) 0 else l.getD p 0) := ⟨_, rfl⟩
 have hlen : ∀ i, (st i).length = l.length := by intro i; simp [hst]
 have hget : ∀ i p, p < l.length → rd (st i) (p : Int) = if p < i ∨ l.length - i ≤ p then l.getD (l.length - 1 - p) 0 else l.getD p 0 := by
  intro i p hp
  rw [rdI _ p (by rw [hlen]; exact hp)]
  simp [hst]
 have hgetE : ∀ i p (hp : p < (st i).length), (st i)[p] = if p < i ∨ l.length - i ≤ p then l.getD (l.length - 1 - p) 0 else l.getD p 0 := by
  intro i p hp
  simp [hst]
 have loop : ∀ (m i : Nat), 2 * i + m = l.length ∨ (2 * i = l.length + 1 ∧ m = 0) → Evn (fun k => slices_Reverse_int_int.l0 k (st i) (i : Int) ((l.length : Int) - 1 - (i : Int))) l.reverse := by
  intro m
  induction m using Nat.strongRecOn with
  | ind m ih =>
   intro i hm
   by_cases hlt : (i : Int) < (l.length : Int) - 1 - (i : Int)
   ·have e1 : ((l.length : Int) - 1 - (i : Int)) = ((l.length - 1 - i : Nat) : Int) := by omega
    refine Evn.step (fun k => by rw [slices_Reverse_int_int.l0]) (Evn.pos hlt (Evn.pos (by omega) (Evn.pos (by rw [hlen]; omega) (Evn.pos (by omega) (Evn.pos (by rw [hlen]; omega) ?_)))))
    have e2 : ((st i).set ((i : Int)).toNat (rd (st i) ((l.length : Int) - 1 - (i : Int)))).set ((l.length : Int) - 1 - (i : Int)).toNat (rd (st i) (i : Int)) = st (i + 1) := by
     rw [e1, Int.toNat_natCast, Int.toNat_natCast, hget i _ (by omega), hget i _ (by omega)]
     apply List.ext_getElem
     ·simp [hlen]
     ·intro p h1 h2
      rw [hlen] at h2
      rw [List.getElem_set, List.getElem_set, hgetE, hgetE]
      rw [if_neg (show ¬ (l.length - 1 - i < i ∨ l.length - i ≤ l.length - 1 - i) by omega), if_neg (show ¬ (i < i ∨ l.length - i ≤ i) by omega)]
      by_cases hp1 : l.length - 1 - i = p
      ·rw [if_pos hp1, if_pos (show p < i + 1 ∨ l.length - (i + 1) ≤ p by omega)]
       congr 1
       omega
      ·rw [if_neg hp1]
       by_cases hp2 : i = p
       ·rw [if_pos hp2, if_pos (show p < i + 1 ∨ l.length - (i + 1) ≤ p by omega)]
        congr 1
        omega
       ·rw [if_neg hp2]
        by_cases hp3 : p < i ∨ l.length - i ≤ p
        ·rw [if_pos hp3, if_pos (by omega)]
        ·rw [if_neg hp3, if_neg (by omega)]
    rw [e2, w64 (by omega) (by omega), w64 (by omega) (by omega)]
    have := ih (m - 2) (by omega) (i + 1) (by omega)
    rw [show ((i + 1 : Nat) : Int) = (i : Int) + 1 by omega, show (l.length : Int) - 1 - ((i : Int) + 1) = (l.length : Int) - 1 - (i : Int) - 1 by omega] at this
    exact this
   ·refine Evn.step (fun k => by rw [slices_Reverse_int_int.l0]) (Evn.neg hlt ?_)
    refine Evn.of_eq (Evn.const _) ?_
    apply List.ext_getElem
    ·simp [hlen]
    ·intro p h1 h2
     rw [hlen] at h1
     rw [hgetE, List.getElem_reverse]
     have hg : ∀ q (hq : q < l.length), l.getD q 0 = l[q] := fun q hq => by rw [List.getD_eq_getElem?_getD, List.getElem?_eq_getElem hq]; rfl
     by_cases hp : p < i ∨ l.length - i ≤ p
     ·rw [if_pos hp, hg _ (by omega)]
     ·rw [if_neg hp, hg _ h1]
      congr 1
      omega
 have h0 : st 0 = l := by
  rw [hst]
  apply List.ext_getElem
  ·simp
  ·intro p h1 h2
   simp only [List.getElem_map, List.getElem_range]
   rw [if_neg (by omega), List.getD_eq_getElem?_getD, List.getElem?_eq_getElem h2]
   rfl
 unfold slices_Reverse_int_int.f
 have := loop l.length 0 (.inl (by omega))
 rw [h0] at this
 rw [w64 (by omega) (by omega)]
 simpa using this
def okAt (S : List S59) (now : Int) : Prop := (0 ≤ now ∧ now ≤ 6311433599) ∧ ∀ i, i < S.length → 0 ≤ (sd S i).f1 ∧ (sd S i).f1 ≤ 6311433599
theorem free_val (l : S43) (s : S59) (now : Int) (h1 : 0 ≤ now ∧ now ≤ 6311433599) (h2 : 0 ≤ s.f1 ∧ s.f1 ≤ 6311433599) :
  plenumref56_Free.f l.f0 l.f1 l.f2 l.f3 l.f4 s.f0 s.f1 now = some (decide (now - s.f1 ≥ if s.f0 = true then l.f4 else l.f3)) := by
 unfold plenumref56_Free.f
 rw [w64 (by omega) (by omega)]
 by_cases h : s.f0 = true
 ·simp only [if_pos h]
 ·simp only [if_neg h]
def lv (L : List S43) (S : List S59) (now base : Int) : Nat → Int
 | 0 => base
 | i + 1 => lv L S now base i + if (sd S i).f0 = true then 0 else if now - (sd S i).f1 < (ld L i).f3 then (ld L i).f2 else 0
theorem lv_bound {L : List S43} (hf : Fit L) (S : List S59) (now base : Int) : ∀ i, i ≤ L.length → base ≤ lv L S now base i ∧ lv L S now base i ≤ base + i * 15625000000
 | 0, _ => by simp [lv]
 | i + 1, hi => by
  have ih := lv_bound hf S now base i (by omega)
  have hr := (hf.2 i (by omega)).2.1
  unfold lv
  repeat' split
  all_goals omega
theorem level_ref {L : List S43} (hf : Fit L) (S : List S59) (now base : Int) (hl : S.length = L.length) (ht : okAt S now) (hb : insideP base) : Evn (fun k => plenumref56_Level.f k L S base now) (lv L S now base L.length) := by
 have h64 := hf.1
 refine fold (fun k s i => plenumref56_Level.l0 k L S now s i) (lv L S now base) L.length ?_ ?_ L.length 0 (by omega)
 ·refine Evn.step (fun k => by rw [plenumref56_Level.l0]) (Evn.neg (by omega) ?_)
  exact Evn.const _
 ·intro i hi u hu
  have hb1 := lv_bound hf S now base i (by omega)
  have hb2 := lv_bound hf S now base (i + 1) (by omega)
  have hr := (hf.2 i hi).2.1
  have hsi := ht.2 i (by omega)
  have hbb : -1000000000000 ≤ base ∧ base ≤ 1000000000000 := hb
  refine Evn.step (fun k => by rw [plenumref56_Level.l0]) (Evn.pos (by omega) (Evn.pos (by omega) (Evn.pos (by omega) ?_)))
  rw [rd59, rd_nat, w64 (n := (i : Int) + 1) (by omega) (by omega), w64 (by omega) (by omega)]
  unfold lv at hu
  by_cases hs : (sd S i).f0 = true
  ·refine Evn.pos hs ?_
   simp only [if_pos hs, Int.add_zero] at hu
   exact hu
  ·refine Evn.neg hs (Evn.bind (Evn.of (free_val (ld L i) (sd S i) now ht.1 hsi)) ?_)
   simp only [if_neg hs] at hu ⊢
   by_cases hc : now - (sd S i).f1 < (ld L i).f3
   ·simp only [if_pos hc] at hu
    refine Evn.neg (by rw [decide_eq_true_eq]; omega) ?_
    exact hu
   ·simp only [if_neg hc, Int.add_zero] at hu
    refine Evn.pos (by rw [decide_eq_true_eq]; omega) ?_
    exact hu
theorem level_dem {L : List S43} (hf : Fit L) (S : List S59) (now base : Int) (hl : S.length = L.length) (ht : okAt S now) (hb : insideP base) : Evn (fun k => demand_Level.l0 k (S.map to51) base now L (L.length : Int) 0) (lv L S now base L.length, 0) := by
 have h64 := hf.1
 refine fold (fun k s i => demand_Level.l0 k (S.map to51) s now L (L.length : Int) i) (lv L S now base) L.length ?_ ?_ L.length 0 (by omega)
 ·refine Evn.step (fun k => by rw [demand_Level.l0]) (Evn.neg (by omega) ?_)
  exact Evn.const _
 ·intro i hi u hu
  have hb1 := lv_bound hf S now base i (by omega)
  have hb2 := lv_bound hf S now base (i + 1) (by omega)
  have hr := (hf.2 i hi).2.1
  have hsi := ht.2 i (by omega)
  have hnow := ht.1
  have hbb : -1000000000000 ≤ base ∧ base ≤ 1000000000000 := hb
  refine Evn.step (fun k => by rw [demand_Level.l0]) (Evn.pos (by omega) (Evn.pos (by omega) (Evn.pos (by omega) (Evn.pos (by simp; omega) ?_))))
  rw [rd51, rd_nat, w64 (n := (i : Int) + 1) (by omega) (by omega)]
  show Evn (fun k => if (sd S i).f0 = true then _ else if wrap64 (now - (sd S i).f1) < (ld L i).f3 then _ else _) u
  rw [w64 (n := now - (sd S i).f1) (by omega) (by omega), w64 (n := lv L S now base i + (ld L i).f2) (by omega) (by omega)]
  unfold lv at hu
  by_cases hs : (sd S i).f0 = true
  ·refine Evn.pos hs ?_
   simp only [if_pos hs, Int.add_zero] at hu
   exact hu
  ·refine Evn.neg hs ?_
   simp only [if_neg hs] at hu
   by_cases hc : now - (sd S i).f1 < (ld L i).f3
   ·simp only [if_pos hc] at hu
    exact Evn.pos hc hu
   ·simp only [if_neg hc, Int.add_zero] at hu
    exact Evn.neg hc hu
theorem sd_set (S : List S59) (a j : Nat) (s : S59) (ha : a < S.length) : sd (S.set a s) j = if j = a then s else sd S j := by
 unfold sd
 rw [List.getD_eq_getElem?_getD, List.getD_eq_getElem?_getD, List.getElem?_set]
 by_cases h : a = j
 ·subst h
  simp [ha]
 ·rw [if_neg h, if_neg (fun e => h e.symm)]
theorem PW_shed {L : List S43} {S : List S59} {a : Nat} (now : Int) (ha : a < L.length) (hl : S.length = L.length) (h : ¬ (sd S a).f0 = true) : PW L (S.set a ⟨true, now⟩) = PW L S - (ld L a).f2 := by
 have h1 : ∀ j, shOf (S.set a ⟨true, now⟩) j = if j = a then true else shOf S j := by
  intro j
  unfold shOf
  rw [sd_set S a j _ (by omega)]
  split <;> rfl
 unfold PW
 rw [pw_set (sh := shOf S) (a := a) (fun j hj => by rw [h1, if_neg hj]) L.length ha, if_neg (show ¬ shOf S a = true from h), h1, if_pos rfl, if_pos rfl]
 omega
theorem PW_back {L : List S43} {S : List S59} {a : Nat} (now : Int) (ha : a < L.length) (hl : S.length = L.length) (h : (sd S a).f0 = true) : PW L (S.set a ⟨false, now⟩) = PW L S + (ld L a).f2 := by
 have h1 : ∀ j, shOf (S.set a ⟨false, now⟩) j = if j = a then false else shOf S j := by
  intro j
  unfold shOf
  rw [sd_set S a j _ (by omega)]
  split <;> rfl
 unfold PW
 rw [pw_set (sh := shOf S) (a := a) (fun j hj => by rw [h1, if_neg hj]) L.length ha, if_pos (show shOf S a = true from h), h1, if_pos rfl, if_neg (by simp)]
 omega
def down (L : List S43) (base limit now : Int) : List Int → List S59 → List S59
 | [], out => out
 | a :: r, out => down L base limit now r (if base + PW L out > limit ∧ ¬ (sd out a.toNat).f0 = true ∧ now - (sd out a.toNat).f1 ≥ (ld L a.toNat).f3 then out.set a.toNat ⟨true, now⟩ else out)
def up (L : List S43) (base limit now : Int) : List Int → List S59 → List S59
 | [], out => out
 | a :: r, out => up L base limit now r (if (sd out a.toNat).f0 = true ∧ now - (sd out a.toNat).f1 ≥ (ld L a.toNat).f4 ∧ base + PW L out + (ld L a.toNat).f2 ≤ limit then out.set a.toNat ⟨false, now⟩ else out)
theorem okAt_set {S : List S59} {now : Int} (h : okAt S now) (a : Nat) (b : Bool) : okAt (S.set a ⟨b, now⟩) now := by
 refine ⟨h.1, fun i hi => ?_⟩
 have hi' : i < S.length := by simpa using hi
 by_cases ha : a < S.length
 ·rw [sd_set S a i _ ha]
  split
  ·exact h.1
  ·exact h.2 i hi'
 ·rw [List.set_eq_of_length_le (by omega)]
  exact h.2 i hi'
theorem PW_lim {L : List S43} (hf : Fit L) (S : List S59) : 0 ≤ PW L S ∧ PW L S ≤ 1000000000000 := pw_lim hf _ _ (Nat.le_refl _)
theorem drop_cons (l : List Int) (i : Nat) (h : i < l.length) : l.drop i = l[i] :: l.drop (i + 1) := List.drop_eq_getElem_cons h
theorem step_ref_down {L : List S43} (hf : Fit L) (base limit now : Int) (hb : insideP base) (ord : List Int) (ho : ord.length ≤ 64) (hin : ∀ a, a ∈ ord → 0 ≤ a ∧ a < (L.length : Int)) :
  ∀ (m i : Nat) (out : List S59), i + m = ord.length → out.length = L.length → okAt out now → Evn (fun k => plenumref56_Step.l0 k L base limit now out ord (i : Int)) (down L base limit now (ord.drop i) out) := by
 have hbb : -1000000000000 ≤ base ∧ base ≤ 1000000000000 := hb
 have h64 := hf.1
 intro m
 induction m with
 | zero =>
  intro i out hm hl ht
  refine Evn.step (fun k => by rw [plenumref56_Step.l0]) (Evn.neg (by omega) (Evn.of_eq (Evn.const _) ?_))
  rw [List.drop_eq_nil_of_le (by omega)]
  rfl
 | succ m ih =>
  intro i out hm hl ht
  have hi : i < ord.length := by omega
  have hp := PW_lim hf out
  obtain ⟨a, hae⟩ := Int.eq_ofNat_of_zero_le (hin _ (List.getElem_mem hi)).1
  have hal : a < L.length := by have := (hin _ (List.getElem_mem hi)).2; omega
  have hrd : rd ord (i : Int) = (a : Int) := by rw [rdI ord i hi, hae]
  rw [drop_cons ord i hi, hae]
  show Evn _ (down L base limit now (ord.drop (i + 1)) _)
  simp only [Int.toNat_natCast]
  have hj : ∀ b : Bool, Evn (fun k => plenumref56_Step.j1 k L base limit now out ord (i : Int) (a : Int) b) (down L base limit now (ord.drop (i + 1)) (if b = true then out.set a ⟨true, now⟩ else out)) := by
   intro b
   refine Evn.step (fun k => by rw [plenumref56_Step.j1]) ?_
   rw [w64 (n := (i : Int) + 1) (by omega) (by omega), show (i : Int) + 1 = ((i + 1 : Nat) : Int) by omega, Int.toNat_natCast]
   cases b with
   | true => exact Evn.pos rfl (Evn.pos (by omega) (Evn.pos (by omega) (ih (i + 1) _ (by omega) (by simpa using hl) (okAt_set ht a true))))
   | false => exact Evn.neg (by simp) (ih (i + 1) _ (by omega) hl ht)
  refine Evn.step (fun k => by rw [plenumref56_Step.l0]) (Evn.pos (by omega) (Evn.pos (by omega) (Evn.bind (power_ref hf out hl) ?_)))
  rw [hrd, rd59, rd_nat, w64 (n := base + PW L out) (by omega) (by omega)]
  by_cases h1 : base + PW L out > limit
  ·refine Evn.pos h1 (Evn.pos (by omega) (Evn.pos (by omega) ?_))
   by_cases h2 : (sd out a).f0 = true
   ·refine Evn.pos h2 (Evn.of_eq (hj false) ?_)
    rw [if_neg (by simp), if_neg (fun h => h.2.1 h2)]
   ·refine Evn.neg h2 (Evn.pos (by omega) (Evn.bind (Evn.of (free_val (ld L a) (sd out a) now ht.1 (ht.2 a (by omega)))) (Evn.of_eq (hj _) ?_)))
    simp only [if_neg h2, decide_eq_true_eq]
    by_cases h3 : now - (sd out a).f1 ≥ (ld L a).f3
    ·rw [if_pos h3, if_pos ⟨h1, h2, h3⟩]
    ·rw [if_neg h3, if_neg (fun h => h3 h.2.2)]
  ·refine Evn.neg h1 (Evn.of_eq (hj false) ?_)
   rw [if_neg (by simp), if_neg (fun h => h1 h.1)]
theorem step_ref_up {L : List S43} (hf : Fit L) (base limit now : Int) (hb : insideP base) (ord : List Int) (ho : ord.length ≤ 64) (hin : ∀ a, a ∈ ord → 0 ≤ a ∧ a < (L.length : Int)) :
  ∀ (i : Nat) (out : List S59), i ≤ ord.length → out.length = L.length → okAt out now → Evn (fun k => plenumref56_Step.l1 k L base limit now out ord ((i : Int) - 1)) (up L base limit now (ord.take i).reverse out) := by
 have hbb : -1000000000000 ≤ base ∧ base ≤ 1000000000000 := hb
 have h64 := hf.1
 intro i
 induction i with
 | zero =>
  intro out hm hl ht
  refine Evn.step (fun k => by rw [plenumref56_Step.l1]) (Evn.neg (by omega) (Evn.of_eq (Evn.const _) ?_))
  simp [up]
 | succ i ih =>
  intro out hm hl ht
  have hi : i < ord.length := by omega
  have hp := PW_lim hf out
  obtain ⟨a, hae⟩ := Int.eq_ofNat_of_zero_le (hin _ (List.getElem_mem hi)).1
  have hal : a < L.length := by have := (hin _ (List.getElem_mem hi)).2; omega
  have hrd : rd ord (i : Int) = (a : Int) := by rw [rdI ord i hi, hae]
  have hr := (hf.2 a hal).2.1
  rw [List.take_succ_eq_append_getElem hi, List.reverse_append, hae]
  show Evn _ (up L base limit now (ord.take i).reverse _)
  simp only [Int.toNat_natCast]
  rw [show ((i + 1 : Nat) : Int) - 1 = (i : Int) by omega]
  have hj : ∀ b : Bool, Evn (fun k => plenumref56_Step.j3 k L base limit now out ord (i : Int) (a : Int) b) (up L base limit now (ord.take i).reverse (if b = true then out.set a ⟨false, now⟩ else out)) := by
   intro b
   refine Evn.step (fun k => by rw [plenumref56_Step.j3]) ?_
   rw [w64 (n := (i : Int) - 1) (by omega) (by omega), Int.toNat_natCast]
   cases b with
   | true => exact Evn.pos rfl (Evn.pos (by omega) (Evn.pos (by omega) (ih _ (by omega) (by simpa using hl) (okAt_set ht a false))))
   | false => exact Evn.neg (by simp) (ih _ (by omega) hl ht)
  refine Evn.step (fun k => by rw [plenumref56_Step.l1]) (Evn.pos (by omega) (Evn.pos (by omega) (Evn.pos (by omega) ?_)))
  rw [hrd, rd59, rd_nat]
  refine Evn.pos (by omega) (Evn.pos (by omega) ?_)
  by_cases h1 : (sd out a).f0 = true
  ·refine Evn.pos h1 (Evn.pos (by omega) (Evn.bind (Evn.of (free_val (ld L a) (sd out a) now ht.1 (ht.2 a (by omega)))) ?_))
   simp only [if_pos h1, decide_eq_true_eq]
   by_cases h2 : now - (sd out a).f1 ≥ (ld L a).f4
   ·refine Evn.pos h2 (Evn.bind (power_ref hf out hl) (Evn.of_eq (hj _) ?_))
    rw [w64 (n := base + PW L out) (by omega) (by omega), w64 (by omega) (by omega)]
    by_cases h3 : base + PW L out + (ld L a).f2 ≤ limit
    ·rw [if_pos (by rw [decide_eq_true_eq]; exact h3), if_pos ⟨h1, h2, h3⟩]
    ·rw [if_neg (by rw [decide_eq_true_eq]; exact h3), if_neg (fun h => h3 h.2.2)]
   ·refine Evn.neg h2 (Evn.of_eq (hj false) ?_)
    rw [if_neg (by simp), if_neg (fun h => h2 h.2.1)]
  ·refine Evn.neg h1 (Evn.of_eq (hj false) ?_)
   rw [if_neg (by simp), if_neg (fun h => h1 h.1)]
theorem map_set51 (S : List S59) (a : Nat) (b : Bool) (now : Int) : (S.map to51).set a ⟨b, now⟩ = (S.set a ⟨b, now⟩).map to51 := by
 rw [List.map_set]
 rfl
theorem step_dem_down {L : List S43} (hf : Fit L) (S : List S59) (base limit now : Int) (hb : insideP base) (ord : List Int) (ho : ord.length ≤ 64) (hin : ∀ a, a ∈ ord → 0 ≤ a ∧ a < (L.length : Int)) (hnd : ord.Nodup) (hS : S.length = L.length) (ht : okAt S now) :
  ∀ (m i : Nat) (out : List S59), i + m = ord.length → out.length = L.length → (∀ a : Nat, (a : Int) ∈ ord.drop i → sd out a = sd S a) →
   Evn (fun k => demand_Step.l0 k L (S.map to51) limit now (out.map to51) (base + PW L out) ord (ord.length : Int) (i : Int)) ((down L base limit now (ord.drop i) out).map to51, 0) := by
 have hbb : -1000000000000 ≤ base ∧ base ≤ 1000000000000 := hb
 have h64 := hf.1
 intro m
 induction m with
 | zero =>
  intro i out hm hl hu
  refine Evn.step (fun k => by rw [demand_Step.l0]) (Evn.neg (by omega) (Evn.of_eq (Evn.const _) ?_))
  rw [List.drop_eq_nil_of_le (by omega)]
  rfl
 | succ m ih =>
  intro i out hm hl hu
  have hi : i < ord.length := by omega
  have hp := PW_lim hf out
  obtain ⟨a, hae⟩ := Int.eq_ofNat_of_zero_le (hin _ (List.getElem_mem hi)).1
  have hal : a < L.length := by have := (hin _ (List.getElem_mem hi)).2; omega
  have hrd : rd ord (i : Int) = (a : Int) := by rw [rdI ord i hi, hae]
  have hr := (hf.2 a hal).2.1
  have hsa : sd out a = sd S a := hu a (by rw [drop_cons ord i hi, hae]; exact List.mem_cons_self)
  have hsi := ht.2 a (by omega)
  have hnow := ht.1
  have hnot : (a : Int) ∉ ord.drop (i + 1) := by
   have h2 : (ord.drop i).Nodup := hnd.sublist (List.drop_sublist _ _)
   rw [drop_cons ord i hi, hae] at h2
   exact (List.nodup_cons.1 h2).1
  have hrest : ∀ b : Nat, (b : Int) ∈ ord.drop (i + 1) → sd out b = sd S b := fun b hb2 => hu b (by rw [drop_cons ord i hi]; exact List.mem_cons_of_mem _ hb2)
  rw [drop_cons ord i hi, hae]
  show Evn _ ((down L base limit now (ord.drop (i + 1)) _).map to51, (0 : Int))
  simp only [Int.toNat_natCast]
  have hj : ∀ b : Bool, (b = true → ¬ (sd out a).f0 = true) → Evn (fun k => demand_Step.j1 k L (S.map to51) limit now (out.map to51) (base + PW L out) (a : Int) ord (ord.length : Int) (i : Int) b (ld L a).f0 (ld L a).f1 (ld L a).f2 (ld L a).f3 (ld L a).f4) ((down L base limit now (ord.drop (i + 1)) (if b = true then out.set a ⟨true, now⟩ else out)).map to51, 0) := by
   intro b hbs
   refine Evn.step (fun k => by rw [demand_Step.j1]) ?_
   rw [w64 (n := (i : Int) + 1) (by omega) (by omega), show (i : Int) + 1 = ((i + 1 : Nat) : Int) by omega, Int.toNat_natCast]
   cases b with
   | true =>
    have e := PW_shed (L := L) (S := out) (a := a) now hal hl (hbs rfl)
    have h2 := ih (i + 1) (out.set a ⟨true, now⟩) (by omega) (by simpa using hl) (fun b hb2 => by
     rw [sd_set out a b _ (by omega), if_neg (by rintro rfl; exact hnot hb2)]
     exact hrest b hb2)
    rw [e] at h2
    refine Evn.pos rfl (Evn.pos (by omega) (Evn.pos (by simp; omega) ?_))
    rw [map_set51, w64 (by omega) (by omega), show base + PW L out - (ld L a).f2 = base + (PW L out - (ld L a).f2) by omega]
    exact h2
   | false => exact Evn.neg (by simp) (ih (i + 1) _ (by omega) hl hrest)
  refine Evn.step (fun k => by rw [demand_Step.l0]) (Evn.pos (by omega) (Evn.pos (by omega) (Evn.pos (by omega) ?_)))
  rw [hrd]
  refine Evn.pos (by omega) (Evn.pos (by omega) (Evn.pos (by simp; omega) ?_))
  rw [rd51, rd_nat, ← hsa]
  rw [← hsa] at hsi
  show Evn (fun k => if base + PW L out > limit then if (sd out a).f0 = true then _ else demand_Step.j1 k L (S.map to51) limit now (out.map to51) (base + PW L out) (a : Int) ord (ord.length : Int) (i : Int) (decide (wrap64 (now - (sd out a).f1) ≥ (ld L a).f3)) _ _ _ _ _ else _) _
  rw [w64 (n := now - (sd out a).f1) (by omega) (by omega)]
  by_cases h1 : base + PW L out > limit
  ·refine Evn.pos h1 ?_
   by_cases h2 : (sd out a).f0 = true
   ·refine Evn.pos h2 (Evn.of_eq (hj false (by simp)) ?_)
    rw [if_neg (by simp), if_neg (fun h => h.2.1 h2)]
   ·refine Evn.neg h2 (Evn.of_eq (hj _ (fun _ => h2)) ?_)
    by_cases h3 : now - (sd out a).f1 ≥ (ld L a).f3
    ·rw [if_pos (by rw [decide_eq_true_eq]; exact h3), if_pos ⟨h1, h2, h3⟩]
    ·rw [if_neg (by rw [decide_eq_true_eq]; exact h3), if_neg (fun h => h3 h.2.2)]
  ·refine Evn.neg h1 (Evn.of_eq (hj false (by simp)) ?_)
   rw [if_neg (by simp), if_neg (fun h => h1 h.1)]
theorem step_dem_up {L : List S43} (hf : Fit L) (S : List S59) (base limit now : Int) (hb : insideP base) (ord : List Int) (ho : ord.length ≤ 64) (hin : ∀ a, a ∈ ord → 0 ≤ a ∧ a < (L.length : Int)) (hnd : ord.Nodup) (hS : S.length = L.length) (ht : okAt S now) :
  ∀ (m i : Nat) (out : List S59), i + m = ord.length → out.length = L.length → (∀ a : Nat, (a : Int) ∈ ord.drop i → sd out a = sd S a) →
   Evn (fun k => demand_Step.l1 k L (S.map to51) limit now (out.map to51) (base + PW L out) ord (ord.length : Int) (i : Int)) ((up L base limit now (ord.drop i) out).map to51, 0) := by
 have hbb : -1000000000000 ≤ base ∧ base ≤ 1000000000000 := hb
 have h64 := hf.1
 intro m
 induction m with
 | zero =>
  intro i out hm hl hu
  refine Evn.step (fun k => by rw [demand_Step.l1]) (Evn.neg (by omega) (Evn.of_eq (Evn.const _) ?_))
  rw [List.drop_eq_nil_of_le (by omega)]
  rfl
 | succ m ih =>
  intro i out hm hl hu
  have hi : i < ord.length := by omega
  have hp := PW_lim hf out
  obtain ⟨a, hae⟩ := Int.eq_ofNat_of_zero_le (hin _ (List.getElem_mem hi)).1
  have hal : a < L.length := by have := (hin _ (List.getElem_mem hi)).2; omega
  have hrd : rd ord (i : Int) = (a : Int) := by rw [rdI ord i hi, hae]
  have hr := (hf.2 a hal).2.1
  have hsa : sd out a = sd S a := hu a (by rw [drop_cons ord i hi, hae]; exact List.mem_cons_self)
  have hsi := ht.2 a (by omega)
  have hnow := ht.1
  have hnot : (a : Int) ∉ ord.drop (i + 1) := by
   have h2 : (ord.drop i).Nodup := hnd.sublist (List.drop_sublist _ _)
   rw [drop_cons ord i hi, hae] at h2
   exact (List.nodup_cons.1 h2).1
  have hrest : ∀ b : Nat, (b : Int) ∈ ord.drop (i + 1) → sd out b = sd S b := fun b hb2 => hu b (by rw [drop_cons ord i hi]; exact List.mem_cons_of_mem _ hb2)
  rw [drop_cons ord i hi, hae]
  show Evn _ ((up L base limit now (ord.drop (i + 1)) _).map to51, (0 : Int))
  simp only [Int.toNat_natCast]
  have hj : ∀ b : Bool, (b = true → (sd out a).f0 = true) → Evn (fun k => demand_Step.j3 k L (S.map to51) limit now (out.map to51) (base + PW L out) (a : Int) ord (ord.length : Int) (i : Int) b (ld L a).f0 (ld L a).f1 (ld L a).f2 (ld L a).f3 (ld L a).f4) ((up L base limit now (ord.drop (i + 1)) (if b = true then out.set a ⟨false, now⟩ else out)).map to51, 0) := by
   intro b hbs
   refine Evn.step (fun k => by rw [demand_Step.j3]) ?_
   rw [w64 (n := (i : Int) + 1) (by omega) (by omega), show (i : Int) + 1 = ((i + 1 : Nat) : Int) by omega, Int.toNat_natCast]
   cases b with
   | true =>
    have e := PW_back (L := L) (S := out) (a := a) now hal hl (hbs rfl)
    have h2 := ih (i + 1) (out.set a ⟨false, now⟩) (by omega) (by simpa using hl) (fun b hb2 => by
     rw [sd_set out a b _ (by omega), if_neg (by rintro rfl; exact hnot hb2)]
     exact hrest b hb2)
    rw [e] at h2
    refine Evn.pos rfl (Evn.pos (by omega) (Evn.pos (by simp; omega) ?_))
    rw [map_set51, w64 (by omega) (by omega), show base + PW L out + (ld L a).f2 = base + (PW L out + (ld L a).f2) by omega]
    exact h2
   | false => exact Evn.neg (by simp) (ih (i + 1) _ (by omega) hl hrest)
  refine Evn.step (fun k => by rw [demand_Step.l1]) (Evn.pos (by omega) (Evn.pos (by omega) (Evn.pos (by omega) ?_)))
  rw [hrd]
  refine Evn.pos (by omega) (Evn.pos (by omega) (Evn.pos (by simp; omega) ?_))
  rw [rd51, rd_nat, ← hsa]
  rw [← hsa] at hsi
  show Evn (fun k => if (sd out a).f0 = true then if wrap64 (now - (sd out a).f1) ≥ (ld L a).f4 then demand_Step.j3 k L (S.map to51) limit now (out.map to51) (base + PW L out) (a : Int) ord (ord.length : Int) (i : Int) (decide (wrap64 (base + PW L out + (ld L a).f2) ≤ limit)) _ _ _ _ _ else _ else _) _
  rw [w64 (n := now - (sd out a).f1) (by omega) (by omega), w64 (n := base + PW L out + (ld L a).f2) (by omega) (by omega)]
  by_cases h1 : (sd out a).f0 = true
  ·refine Evn.pos h1 ?_
   by_cases h2 : now - (sd out a).f1 ≥ (ld L a).f4
   ·refine Evn.pos h2 (Evn.of_eq (hj _ (fun _ => h1)) ?_)
    by_cases h3 : base + PW L out + (ld L a).f2 ≤ limit
    ·rw [if_pos (by rw [decide_eq_true_eq]; exact h3), if_pos ⟨h1, h2, h3⟩]
    ·rw [if_neg (by rw [decide_eq_true_eq]; exact h3), if_neg (fun h => h3 h.2.2)]
   ·refine Evn.neg h2 (Evn.of_eq (hj false (by simp)) ?_)
    rw [if_neg (by simp), if_neg (fun h => h2 h.2.1)]
  ·refine Evn.neg h1 (Evn.of_eq (hj false (by simp)) ?_)
   rw [if_neg (by simp), if_neg (fun h => h1 h.1)]
end Go.Proofs.Ytcdjhdfjkfbgdaa.PD56
namespace Go.Proofs.Ytcdjhdfjkfbgdaa.PD56
open Go.RowKit Go.Proofs.YtcdjhdfjkfbgdaaW.PrintWords Go.Proofs.YtcdjhdfjkfbgdaaW.PrintLast Go.Proofs.YtcdjhdfjkfbgdaaW.PrintMore
open Go.Proofs.YtcdjhdfjkfbgdaaX
theorem Evn.mono {α : Type} {f : Nat → Option α} {v : α} (hm : ∀ k, LeO (f k) (f (k + 1))) (k0 : Nat) (h : f k0 = some v) : Evn f v := by
 refine ⟨k0, fun k hk => ?_⟩
 obtain ⟨j, rfl⟩ : ∃ j, k = k0 + j := ⟨k - k0, by omega⟩
 clear hk
 induction j with
 | zero => exact h
 | succ j ih => exact hm _ _ ih
def stepV (L : List S43) (S : List S59) (base limit now : Int) : List S59 := if base + PW L S > limit then down L base limit now (ordV L) S else up L base limit now (ordV L).reverse S
theorem down_len (L : List S43) (base limit now : Int) : ∀ (l : List Int) (S : List S59), (down L base limit now l S).length = S.length
 | [], _ => rfl
 | a :: r, S => by
  unfold down
  rw [down_len L base limit now r]
  split <;> simp
theorem up_len (L : List S43) (base limit now : Int) : ∀ (l : List Int) (S : List S59), (up L base limit now l S).length = S.length
 | [], _ => rfl
 | a :: r, S => by
  unfold up
  rw [up_len L base limit now r]
  split <;> simp
theorem stepV_len (L : List S43) (S : List S59) (base limit now : Int) : (stepV L S base limit now).length = S.length := by
 unfold stepV
 split
 ·exact down_len ..
 ·exact up_len ..
theorem ready_zero {L : List S43} {S : List S59} {now : Int} (h : readyV L S now = 0) : S.length = L.length ∧ okAt S now := by
 unfold readyV at h
 split at h
 ·rename_i h1
  split at h
  ·simp at h
  ·rename_i h2
   refine ⟨h1.1, h1.2, fun i hi => ?_⟩
   exact Classical.not_not.1 fun hn => h2 ⟨i, Nat.zero_le _, hi, hn⟩
 ·simp at h
theorem step_ref {L : List S43} (hc : checkV L = 0) (S : List S59) (base limit now : Int) (hb : insideP base) (hr : readyV L S now = 0) : Evn (fun k => plenumref56_Step.f k L S base limit now) (stepV L S base limit now) := by
 obtain ⟨hf, h5⟩ := fit_of hc
 obtain ⟨hl, ht⟩ := ready_zero hr
 have h64 := hf.1
 have hp := PW_lim hf S
 have hbb : -1000000000000 ≤ base ∧ base ≤ 1000000000000 := hb
 unfold plenumref56_Step.f
 simp only [Option.bind_some, List.nil_append, List.length_nil]
 refine Evn.pos (by omega) (Evn.bind (order_ref L h64 h5) (Evn.bind (power_ref hf S hl) ?_))
 rw [w64 (by omega) (by omega), ordV_len, w64 (by omega) (by omega)]
 unfold stepV
 by_cases h1 : base + PW L S > limit
 ·rw [if_pos h1]
  refine Evn.pos h1 ?_
  have := step_ref_down hf base limit now hb (ordV L) (by rw [ordV_len]; exact h64) (fun a ha => ordV_mem ha) (ordV L).length 0 S (by omega) hl ht
  simpa using this
 ·rw [if_neg h1]
  refine Evn.neg h1 ?_
  have := step_ref_up hf base limit now hb (ordV L) (by rw [ordV_len]; exact h64) (fun a ha => ordV_mem ha) (ordV L).length S (Nat.le_refl _) hl ht
  rw [List.take_length, ordV_len] at this
  exact this
open Classical in
theorem step_dem {L : List S43} (hs : Sized L) (S : List S59) (base limit now : Int) (hl : S.length ≤ 70) : Evn (fun k => demand_Step.f k L (S.map to51) base limit now)
  (if checkV L ≠ 0 then ([], checkV L) else if ¬ (insideP base ∧ insideP limit) then ([], 6) else if readyV L S now ≠ 0 then ([], readyV L S now) else ((stepV L S base limit now).map to51, 0)) := by
 have hnum : (∀ i : Nat, i < [base, limit].length → insideP (rd [base, limit] i)) ↔ (insideP base ∧ insideP limit) := by
  constructor
  ·intro h
   exact ⟨h 0 (by simp), h 1 (by simp)⟩
  ·rintro ⟨h1, h2⟩ i hi
   match i, hi with
   | 0, _ => exact h1
   | 1, _ => exact h2
 refine Evn.bind (check_val hs S now [base, limit] hl (by simp)) ?_
 by_cases hc : checkV L = 0
 ·have q1 : ¬ checkV L ≠ 0 := fun h => h hc
  simp only [if_neg q1]
  by_cases hi : insideP base ∧ insideP limit
  ·have q2 : ¬ ¬ (∀ i : Nat, i < [base, limit].length → insideP (rd [base, limit] i)) := fun h => h (hnum.2 hi)
   have q3 : ¬ ¬ (insideP base ∧ insideP limit) := fun h => h hi
   simp only [if_neg q2, if_neg q3]
   by_cases hr : readyV L S now = 0
   ·have q4 : ¬ readyV L S now ≠ 0 := fun h => h hr
    simp only [if_neg q4]
    obtain ⟨hf, h5⟩ := fit_of hc
    obtain ⟨hSl, ht⟩ := ready_zero hr
    have h64 := hf.1
    have hp := PW_lim hf S
    have hbb : -1000000000000 ≤ base ∧ base ≤ 1000000000000 := hi.1
    refine Evn.pos hr (Evn.bind (v := S.map to51) (Evn.of ?_) (Evn.bind (order_dem L h64 h5) (Evn.bind (power_dem hf S hSl) ?_)))
    ·unfold demand_State_23.f
     rw [if_pos (by simp; omega)]
    ·rw [w64 (by omega) (by omega)]
     unfold stepV
     by_cases h1 : base + PW L S > limit
     ·rw [if_pos h1]
      refine Evn.pos h1 ?_
      have := step_dem_down hf S base limit now hi.1 (ordV L) (by rw [ordV_len]; exact h64) (fun a ha => ordV_mem ha) (ordV_nodup L) hSl ht (ordV L).length 0 S (by omega) hSl (fun _ _ => rfl)
      simpa using this
     ·rw [if_neg h1]
      refine Evn.neg h1 (Evn.bind (reverse_val _ (by rw [ordV_len]; omega)) ?_)
      have := step_dem_up hf S base limit now hi.1 (ordV L).reverse (by rw [List.length_reverse, ordV_len]; exact h64) (fun a ha => ordV_mem (List.mem_reverse.1 ha)) ((List.reverse_perm _).nodup_iff.2 (ordV_nodup L)) hSl ht (ordV L).reverse.length 0 S (by omega) hSl (fun _ _ => rfl)
      rw [List.length_reverse] at this
      simpa using this
   ·simp only [if_pos (show readyV L S now ≠ 0 from hr)]
    exact Evn.neg hr (Evn.const _)
  ·have q2 : ¬ (∀ i : Nat, i < [base, limit].length → insideP (rd [base, limit] i)) := fun h => hi (hnum.1 h)
   simp only [if_pos q2, if_pos hi]
   exact Evn.neg (by simp) (Evn.const _)
 ·simp only [if_pos (show checkV L ≠ 0 from hc)]
  exact Evn.neg hc (Evn.const _)
open Classical in
theorem power_all {L : List S43} (hs : Sized L) (S : List S59) : Evn (fun k => demand_Power.f k L (S.map to51)) (if checkV L ≠ 0 then (0, checkV L) else if S.length = L.length then (PW L S, 0) else (0, 1)) := by
 refine Evn.bind (check_dem L hs) ?_
 by_cases hc : checkV L = 0
 ·rw [if_neg (by simpa using hc)]
  refine Evn.pos hc ?_
  by_cases hl : S.length = L.length
  ·rw [if_pos hl]
   exact Evn.pos (by rw [List.length_map, hl]) (Evn.bind (power_dem (fit_of hc).1 S hl) (Evn.const _))
  ·rw [if_neg hl]
   exact Evn.neg (by rw [List.length_map]; omega) (Evn.const _)
 ·rw [if_pos hc]
  exact Evn.neg hc (Evn.const _)
open Classical in
theorem level_all {L : List S43} (hs : Sized L) (S : List S59) (base now : Int) (hl : S.length ≤ 70) : Evn (fun k => demand_Level.f k L (S.map to51) base now)
  (if checkV L ≠ 0 then (0, checkV L) else if ¬ insideP base then (0, 6) else if readyV L S now ≠ 0 then (0, readyV L S now) else (lv L S now base L.length, 0)) := by
 have hnum : (∀ i : Nat, i < [base].length → insideP (rd [base] i)) ↔ insideP base := by
  constructor
  ·intro h
   exact h 0 (by simp)
  ·intro h1 i hi
   match i, hi with
   | 0, _ => exact h1
 refine Evn.bind (check_val hs S now [base] hl (by simp)) ?_
 by_cases hc : checkV L = 0
 ·have q1 : ¬ checkV L ≠ 0 := fun h => h hc
  simp only [if_neg q1]
  by_cases hi : insideP base
  ·have q2 : ¬ ¬ (∀ i : Nat, i < [base].length → insideP (rd [base] i)) := fun h => h (hnum.2 hi)
   have q3 : ¬ ¬ insideP base := fun h => h hi
   simp only [if_neg q2, if_neg q3]
   by_cases hr : readyV L S now = 0
   ·have q4 : ¬ readyV L S now ≠ 0 := fun h => h hr
    simp only [if_neg q4]
    obtain ⟨hSl, ht⟩ := ready_zero hr
    exact Evn.pos hr (level_dem (fit_of hc).1 S now base hSl ht hi)
   ·simp only [if_pos (show readyV L S now ≠ 0 from hr)]
    exact Evn.neg hr (Evn.const _)
  ·have q2 : ¬ (∀ i : Nat, i < [base].length → insideP (rd [base] i)) := fun h => hi (hnum.1 h)
   simp only [if_pos q2, if_pos hi]
   exact Evn.neg (by simp) (Evn.const _)
 ·simp only [if_pos (show checkV L ≠ 0 from hc)]
  exact Evn.neg hc (Evn.const _)
def L0 : List S43 := [(⟨(⟨#[108, 105, 103, 104, 116, 115]⟩ : ByteArray), 1, 10000, 0, 0⟩ : S43), (⟨(⟨#[102, 97, 110, 115]⟩ : ByteArray), 5, 20000, 0, 0⟩ : S43), (⟨(⟨#[112, 117, 109, 112, 115]⟩ : ByteArray), 5, 30000, 0, 0⟩ : S43)]
def T0 : List S59 := [(⟨false, 0⟩ : S59), (⟨true, 0⟩ : S59), (⟨true, 0⟩ : S59)]
theorem L0_sized : Sized L0 := by
 intro i
 match i with
 | 0 => exact (by decide : (6 : Nat) ≤ 9223372036854775807)
 | 1 => exact (by decide : (4 : Nat) ≤ 9223372036854775807)
 | 2 => exact (by decide : (5 : Nat) ≤ 9223372036854775807)
 | i + 3 => exact (by decide : (0 : Nat) ≤ 9223372036854775807)
open Classical in
theorem name_of (s : ByteArray) (hs : s.size ≤ 100) (h : lexer_Name.f 60 s = some true) : NameOk s := by
 have h1 : Evn (fun k => lexer_Name.f k s) true := Evn.mono (fun k => lexer_Name.mono _ _) 60 h
 have := Evn.uniq h1 (lexName_val s (by omega))
 exact of_decide_eq_true this.symm
theorem L0_check : checkV L0 = 0 := by
 have h4 : ¬ bad4 L0 := by
  rintro ⟨i, _, hi, hn⟩
  apply hn
  match i, hi with
  | 0, _ => exact name_of _ (by decide) (by decide +kernel)
  | 1, _ => exact name_of _ (by decide) (by decide +kernel)
  | 2, _ => exact name_of _ (by decide) (by decide +kernel)
 have h5 : ¬ bad5 L0 := by
  rintro ⟨i, _, hi, j, _, hj, he⟩
  rw [bal, bal] at he
  match i, hi, j, hj with
  | 1, _, 0, _ => exact absurd he (by decide)
  | 2, _, 0, _ => exact absurd he (by decide)
  | 2, _, 1, _ => exact absurd he (by decide)
 have h6 : ¬ bad6 L0 := by
  rintro ⟨i, _, hi, hn⟩
  apply hn
  unfold rangeOk
  match i, hi with
  | 0, _ => decide
  | 1, _ => decide
  | 2, _ => decide
 unfold checkV
 rw [if_neg (by decide), if_neg h4, if_neg h5, if_neg h6]
theorem L0_ord : ordV L0 = [2, 1, 0] := by
 refine (sorted_eq (fit_of L0_check).2 (by decide) ?_).symm
 unfold bef
 decide
theorem awake_val : Evn (fun k => plenumlaw56_awake.f k) true := by
 have hs := L0_sized
 have hc := L0_check
 obtain ⟨hf, h5⟩ := fit_of hc
 have ho : Evn (fun k => demand_order.f k L0) [2, 1, 0] := Evn.of_eq (order_dem L0 hf.1 h5) L0_ord
 have hO : Evn (fun k => demand_Order.f k L0) ([2, 1, 0], 0) := Evn.bind (Evn.of_eq (check_dem L0 hs) hc) (Evn.pos rfl (Evn.bind ho (Evn.const _)))
 have hsh : ∀ (base limit : Int) (r : Int × Int × Bool), insideP base → demand_shed.l1 50 L0 (base + 60000) limit 0 [2, 1, 0] 3 0 = some r → Evn (fun k => demand_shed.f k L0 base limit) r := by
  intro base limit r hb h
  have hbb : -1000000000000 ≤ base ∧ base ≤ 1000000000000 := hb
  have h1 : Evn (fun k => demand_shed.l1 k L0 (base + 60000) limit 0 [2, 1, 0] 3 0) r := Evn.mono (fun k => (demand_shed.mono_l k).2 _ _ _ _ _ _ _) 50 h
  have e0 : (rd_T43 L0 0).f2 = 10000 := rfl
  have e1 : (rd_T43 L0 1).f2 = 20000 := rfl
  have e2 : (rd_T43 L0 2).f2 = 30000 := rfl
  unfold demand_shed.f
  refine Evn.step (fun k => by rw [demand_shed.l0]) (Evn.pos (by decide) (Evn.pos (by decide) (Evn.pos (by decide) ?_)))
  rw [e0, w64 (n := base + 10000) (by omega) (by omega), w64 (n := (0 : Int) + 1) (by omega) (by omega)]
  refine Evn.step (fun k => by rw [demand_shed.l0]) (Evn.pos (by decide) (Evn.pos (by decide) (Evn.pos (by decide) ?_)))
  rw [show (0 : Int) + 1 = 1 from rfl, e1, w64 (n := base + 10000 + 20000) (by omega) (by omega), w64 (n := (1 : Int) + 1) (by omega) (by omega)]
  refine Evn.step (fun k => by rw [demand_shed.l0]) (Evn.pos (by decide) (Evn.pos (by decide) (Evn.pos (by decide) ?_)))
  rw [show (1 : Int) + 1 = 2 from rfl, e2, w64 (n := base + 10000 + 20000 + 30000) (by omega) (by omega), w64 (n := (2 : Int) + 1) (by omega) (by omega)]
  refine Evn.step (fun k => by rw [demand_shed.l0]) (Evn.neg (by decide) (Evn.bind ho ?_))
  rw [show base + 10000 + 20000 + 30000 = base + 60000 by omega]
  exact h1
 have hS : ∀ (base limit : Int) (r : Int × Int × Bool), insideP base → insideP limit → demand_shed.l1 50 L0 (base + 60000) limit 0 [2, 1, 0] 3 0 = some r → Evn (fun k => demand_Shed.f k L0 base limit) (if r.2.2 = true then (r.1, r.2.1, 0) else (0, 0, 9)) := by
  intro base limit r hb hl h
  refine Evn.bind (Evn.of_eq (check_dem L0 hs) hc) (Evn.pos rfl (Evn.bind (analog_val [base, limit] (by simp)) (Evn.pos ?_ (Evn.bind (hsh base limit r hb h) ?_))))
  ·rw [decide_eq_true_eq]
   intro i hi
   match i, hi with
   | 0, _ => exact hb
   | 1, _ => exact hl
  ·exact Evn.ite (fun h => by rw [if_pos h]; exact Evn.const _) (fun h => by rw [if_neg h]; exact Evn.const _)
 have hF : Evn (fun k => demand_Forecast.f k 30000000 60000 600 900) (53333, 0) := Evn.mono (fun k => demand_Forecast.mono _ _ _ _ _) 20 (by decide +kernel)
 have hr0 : readyV L0 T0 10 = 0 := by
  unfold readyV
  rw [if_pos ⟨rfl, by decide⟩, if_neg, if_neg]
  ·rintro ⟨i, _, hi, h⟩
   match i, hi with
   | 0, _ => exact absurd h (by decide)
   | 1, _ => exact absurd h (by decide)
   | 2, _ => exact absurd h (by decide)
  ·rintro ⟨i, _, hi, h⟩
   apply h
   match i, hi with
   | 0, _ => decide
   | 1, _ => decide
   | 2, _ => decide
 have hT : Evn (fun k => demand_Step.f k L0 (T0.map to51) 50000 85000 10) ([(⟨false, 0⟩ : S51), (⟨false, 10⟩ : S51), (⟨true, 0⟩ : S51)], 0) := by
  refine Evn.of_eq (step_dem hs T0 50000 85000 10 (by decide)) ?_
  rw [if_neg (by simpa using hc), if_neg (fun h => h ⟨by decide, by decide⟩), if_neg (by simpa using hr0)]
  unfold stepV
  rw [if_neg (by decide), L0_ord]
  rfl
 unfold plenumlaw56_awake.f
 simp only [Option.bind_some]
 refine Evn.bind hO (Evn.bind (hS 50000 100000 (1, 80000, true) (by decide) (by decide) (by decide +kernel)) (Evn.bind (hS 50000 45000 (3, 50000, false) (by decide) (by decide) (by decide +kernel)) (Evn.bind hF (Evn.bind hT ?_))))
 refine Evn.pos rfl (Evn.bind (v := true) (Evn.mono (fun k => plenumref56_SameInts.mono _ _ _) 20 (by decide +kernel)) ?_)
 refine Evn.pos rfl (Evn.pos rfl (Evn.pos rfl (Evn.pos rfl (Evn.pos rfl (Evn.pos rfl (Evn.pos rfl (Evn.pos rfl (Evn.pos rfl (Evn.pos (by decide) (Evn.pos (by decide) (Evn.pos (by decide) (Evn.pos (by decide) ?_))))))))))))
 refine Evn.bind (v := true) ?_ (Evn.const _)
 refine Evn.bind (hS 50000 70000 (2, 60000, true) (by decide) (by decide) (by decide +kernel)) (Evn.pos rfl (Evn.const _))
theorem law_val (L : List S43) (S : List S59) (base limit now : Int) (hs : Sized L) : Evn (fun k => plenumlaw56_DemandSteps.f k L S base limit now) true := by
 have hA := awake_val
 have h0 : ∀ b : Bool, (b = false → L.length ≤ 70 ∧ S.length ≤ 70) → Evn (fun k => plenumlaw56_DemandSteps.j0 k L S base limit now b) true := by
  intro b hb
  refine Evn.step (fun k => by rw [plenumlaw56_DemandSteps.j0]) ?_
  cases b with
  | true => exact Evn.pos rfl (Evn.bind hA (Evn.const _))
  | false =>
   obtain ⟨hL, hS⟩ := hb rfl
   refine Evn.neg (by simp) (Evn.bind (ours_val S hS) (Evn.bind (step_dem hs S base limit now hS) (Evn.bind (ours_val S hS) (Evn.bind (power_all hs S) (Evn.bind (ours_val S hS) (Evn.bind (level_all hs S base now hS) (Evn.bind (check_ref L hs) ?_)))))))
   by_cases hc : checkV L = 0
   ·refine Evn.pos hc ?_
    have hc' : ¬ checkV L ≠ 0 := fun h => h hc
    simp only [if_neg hc']
    -- the step's and the level's values
    have h4 : ∀ (a : List S51) (l e g : Int), (e = 0 → insideP base ∧ insideP limit ∧ readyV L S now = 0 ∧ a = (stepV L S base limit now).map to51) → (g = 0 → insideP base ∧ readyV L S now = 0 ∧ l = lv L S now base L.length) → Evn (fun k => plenumlaw56_DemandSteps.j4 k L S base limit now a l e g false) true := by
     intro a l e g he hg
     have hlev : g = 0 → Evn (fun k => (plenumref56_Level.f k L S base now).bind fun t => some (l == t)) true := by
      intro hg0
      obtain ⟨hi, hr, rfl⟩ := hg hg0
      obtain ⟨hSl, ht⟩ := ready_zero hr
      exact Evn.bind (level_ref (fit_of hc).1 S now base hSl ht hi) (Evn.of_eq (Evn.const _) (by simp))
     refine Evn.step (fun k => by rw [plenumlaw56_DemandSteps.j4]) (Evn.neg (by simp) (Evn.bind hA (Evn.pos rfl ?_)))
     by_cases he0 : e = 0
     ·obtain ⟨hi, _, hr, rfl⟩ := he he0
      have hSl := (ready_zero hr).1
      have hlen := stepV_len L S base limit now
      refine Evn.pos he0 (Evn.bind (theirs_val _ (by omega)) (Evn.bind (step_ref hc S base limit now hi hr) (Evn.bind (same_val _ (by omega)) (Evn.pos rfl ?_))))
      by_cases hg0 : g = 0
      ·exact Evn.pos hg0 (hlev hg0)
      ·exact Evn.neg hg0 (Evn.const _)
     ·refine Evn.neg he0 ?_
      by_cases hg0 : g = 0
      ·exact Evn.pos hg0 (hlev hg0)
      ·exact Evn.neg hg0 (Evn.const _)
    have h3 : ∀ (a : List S51) (l e g : Int), (e = 0 → insideP base ∧ insideP limit ∧ readyV L S now = 0 ∧ a = (stepV L S base limit now).map to51) → (e ≠ 0 → a = []) → (g = 0 → insideP base ∧ readyV L S now = 0 ∧ l = lv L S now base L.length) → (g ≠ 0 → l = 0) →
      Evn (fun k => plenumlaw56_DemandSteps.j3 k L S base limit now a e l g e g) true := by
     intro a l e g he he' hg hg'
     have hq := h4 a l e g he hg
     have hlast : Evn (fun k => if g = 0 then plenumlaw56_DemandSteps.j4 k L S base limit now a l e g false else plenumlaw56_DemandSteps.j4 k L S base limit now a l e g (l != 0)) true := by
      by_cases hg0 : g = 0
      ·exact Evn.pos hg0 hq
      ·refine Evn.neg hg0 ?_
       rw [hg' hg0] at hq ⊢
       exact hq
     refine Evn.step (fun k => by rw [plenumlaw56_DemandSteps.j3]) (Evn.pos rfl (Evn.pos rfl ?_))
     by_cases he0 : e = 0
     ·exact Evn.pos he0 hlast
     ·refine Evn.neg he0 (Evn.neg ?_ hlast)
      rw [he' he0]
      simp
    have h1 : Evn (fun k => plenumlaw56_DemandSteps.j1 k L S base limit now (if ¬ (insideP base ∧ insideP limit) then (([] : List S51), (6 : Int)) else if readyV L S now ≠ 0 then ([], readyV L S now) else ((stepV L S base limit now).map to51, 0)).1
      (if ¬ (insideP base ∧ insideP limit) then (([] : List S51), (6 : Int)) else if readyV L S now ≠ 0 then ([], readyV L S now) else ((stepV L S base limit now).map to51, 0)).2
      (if ¬ insideP base then ((0 : Int), (6 : Int)) else if readyV L S now ≠ 0 then (0, readyV L S now) else (lv L S now base L.length, 0)).1
      (if ¬ insideP base then ((0 : Int), (6 : Int)) else if readyV L S now ≠ 0 then (0, readyV L S now) else (lv L S now base L.length, 0)).2 false) true := by
     refine Evn.step (fun k => by rw [plenumlaw56_DemandSteps.j1]) (Evn.neg (by simp) (Evn.bind (ready_ref L S now hS) (Evn.bind (Evn.of (inside_val base)) ?_)))
     by_cases hi : insideP base
     ·refine Evn.pos (by simpa using hi) ?_
      simp only [if_neg (show ¬ ¬ insideP base from fun h => h hi)]
      refine Evn.step (fun k => by rw [plenumlaw56_DemandSteps.j2]) (Evn.bind (Evn.of (inside_val limit)) ?_)
      by_cases hl : insideP limit
      ·refine Evn.pos (by simpa using hl) ?_
       simp only [if_neg (show ¬ ¬ (insideP base ∧ insideP limit) from fun h => h ⟨hi, hl⟩)]
       by_cases hr : readyV L S now = 0
       ·simp only [if_neg (show ¬ readyV L S now ≠ 0 from fun h => h hr)]
        have := h3 ((stepV L S base limit now).map to51) (lv L S now base L.length) 0 0 (fun _ => ⟨hi, hl, hr, rfl⟩) (fun h => absurd rfl h) (fun _ => ⟨hi, hr, rfl⟩) (fun h => absurd rfl h)
        rw [hr]
        exact this
       ·simp only [if_pos hr]
        exact h3 [] 0 _ _ (fun h => absurd h hr) (fun _ => rfl) (fun h => absurd h hr) (fun _ => rfl)
      ·refine Evn.neg (by simpa using hl) ?_
       simp only [if_pos (show ¬ (insideP base ∧ insideP limit) from fun h => hl h.2)]
       by_cases hr : readyV L S now = 0
       ·simp only [if_neg (show ¬ readyV L S now ≠ 0 from fun h => h hr)]
        have := h3 [] (lv L S now base L.length) 6 0 (fun h => absurd h (by decide)) (fun _ => rfl) (fun _ => ⟨hi, hr, rfl⟩) (fun h => absurd rfl h)
        rw [hr]
        exact this
       ·simp only [if_pos hr]
        exact h3 [] 0 6 _ (fun h => absurd h (by decide)) (fun _ => rfl) (fun h => absurd h hr) (fun _ => rfl)
     ·refine Evn.neg (by simpa using hi) ?_
      simp only [if_pos hi, if_pos (show ¬ (insideP base ∧ insideP limit) from fun h => hi h.1)]
      refine Evn.step (fun k => by rw [plenumlaw56_DemandSteps.j2]) (Evn.bind (Evn.of (inside_val limit)) ?_)
      have := h3 [] 0 6 6 (fun h => absurd h (by decide)) (fun _ => rfl) (fun h => absurd h (by decide)) (fun _ => rfl)
      exact Evn.ite (fun _ => this) (fun _ => this)
    by_cases hl : S.length = L.length
    ·refine Evn.pos (by rw [hl]) ?_
     simp only [if_pos hl]
     refine Evn.pos (by trivial) (Evn.bind (power_ref (fit_of hc).1 S hl) ?_)
     rw [bne_self_eq_false]
     exact h1
    ·refine Evn.neg (by omega) ?_
     simp only [if_neg hl]
     exact Evn.pos (by trivial) (Evn.pos (by trivial) h1)
   ·refine Evn.neg hc (Evn.bind hA (Evn.pos rfl ?_))
    have hc' : checkV L ≠ 0 := hc
    simp only [if_pos hc']
    exact Evn.pos (by trivial) (Evn.pos (by trivial) (Evn.pos (by trivial) (Evn.pos (by trivial) (Evn.pos (by trivial) (Evn.const _)))))
 unfold plenumlaw56_DemandSteps.f
 by_cases h1 : (L.length : Int) > 70
 ·exact Evn.pos h1 (h0 true (by simp))
 ·refine Evn.neg h1 (h0 _ (fun h => ?_))
  rw [decide_eq_false_iff_not] at h
  exact ⟨by omega, by omega⟩
end Go.Proofs.Ytcdjhdfjkfbgdaa.PD56
namespace Go.Proofs.Ytcdjhdfjkfbgdaa.PD56
open Go.RowKit Go.Proofs.YtcdjhdfjkfbgdaaW.PrintWords Go.Proofs.YtcdjhdfjkfbgdaaW.PrintLast Go.Proofs.YtcdjhdfjkfbgdaaW.PrintMore
open Go.Proofs.YtcdjhdfjkfbgdaaX
def G43 (x : S43) : Prop := x.f0.size ≤ maxLen ∧ (Lit.int .i64 x.f1).wf = true ∧ (Lit.int .i64 x.f2).wf = true ∧ (Lit.int .i64 x.f3).wf = true ∧ (Lit.int .i64 x.f4).wf = true
def G59 (x : S59) : Prop := True ∧ (Lit.int .i64 x.f1).wf = true
theorem pureLaw (L : List S43) (S : List S59) (base limit now : Int) (hL : L.length ≤ maxLen ∧ ∀ y, y ∈ L → G43 y) (_ : S.length ≤ maxLen ∧ ∀ y, y ∈ S → G59 y) (_ : (Lit.int .i64 base).wf = true) (_ : (Lit.int .i64 limit).wf = true) (_ : (Lit.int .i64 now).wf = true) :
  ∃ k, plenumlaw56_DemandSteps.f k L S base limit now = some true := by
 refine Evn.ex (law_val L S base limit now ?_)
 intro i
 rcases Nat.lt_or_ge i L.length with hi | hi
 ·have hm : ld L i ∈ L := by
   unfold ld
   rw [List.getD_eq_getElem?_getD, List.getElem?_eq_getElem hi]
   exact List.getElem_mem hi
  have h1 : (ld L i).f0.size ≤ maxLen := (hL.2 _ hm).1
  unfold maxLen at h1
  omega
 ·have e : ld L i = z43 := by
   unfold ld
   rw [List.getD_eq_getElem?_getD, List.getElem?_eq_none hi]
   rfl
  rw [e]
  exact (by decide : (0 : Nat) ≤ 9223372036854775807)
end Go.Proofs.Ytcdjhdfjkfbgdaa.PD56
namespace Go.Proofs.YtcdjhdfjkfbgdaaX
open Go.RowKit Go.Deep Go.Proofs.YtcdjhdfjkfbgdaaW.PrintWords Go.Proofs.YtcdjhdfjkfbgdaaW.PrintLast Go.Proofs.YtcdjhdfjkfbgdaaW.PrintMore
section
variable {H : Type} {enc : TypeId × Value → H} {W : World}
def Opens {α : Type} (enc : TypeId × Value → H) (W : World) (kd : Kd α) (t : TypeId) (G : α → Prop) : Prop :=
 ∀ (fuel : Nat) (cs : List Value) (x : DataW H × List MemPlace), DataW.trod enc Try.prog W 0 (fun _ => true) true fuel t cs = some x → ∃ a, kd.K W a cs ∧ G a
theorem opens_int {t : TypeId} {k : IntKind} (ht : Try.prog.underlying t = some (.int k)) : Opens enc W (Kd.int k) t (fun n => (Lit.int k n).wf = true) := by
 intro fuel cs x h
 obtain ⟨n, rfl, _, hw⟩ := DataW.trod_int ht h
 exact ⟨n, rfl, hw⟩
theorem opens_bool {t : TypeId} (ht : Try.prog.underlying t = some .bool) : Opens enc W Kd.bool t (fun _ => True) := by
 intro fuel cs x h
 obtain ⟨b, rfl, _⟩ := DataW.trod_bool ht h
 exact ⟨b, rfl, trivial⟩
theorem opens_string {t : TypeId} (ht : Try.prog.underlying t = some .string) : Opens enc W Kd.string t (fun s => s.size ≤ maxLen) := by
 intro fuel cs x h
 obtain ⟨s, rfl, _, hs⟩ := DataW.trod_string ht h
 exact ⟨s, rfl, hs⟩
theorem opens_slice {α : Type} {kd : Kd α} {t e : TypeId} {G : α → Prop} (ht : Try.prog.underlying t = some (.slice e)) (hc : Try.prog.cellsOf e = kd.sz) (hG : Opens enc W kd e G) :
  Opens enc W (Kd.slice e kd) t (fun l => l.length ≤ maxLen ∧ ∀ x, x ∈ l → G x) := by
 intro fuel cs x h
 rcases open_slice ht h with ⟨rfl, _⟩ | ⟨a, len, cap, m, n, D, Pl, rfl, _, hl, hm, hmm, _, hx⟩
 ·refine ⟨[], ⟨none, 0, rfl, Nat.le_refl _, rfl, by simp, fun hp => absurd hp (by simp)⟩, by simp, fun x hx => by simp at hx⟩
 ·have hlm : len ≤ m := by rw [hmm]; split <;> omega
  have hV0 : ∀ i, i < len → ∃ q : α × List Value, W.cells? 0 (a.add (i * Try.prog.cellsOf e)) (Try.prog.cellsOf e) = some q.2 ∧ kd.K W q.1 q.2 ∧ G q.1 := by
   intro i hi
   obtain ⟨cs', h1, h2⟩ := hx i (by omega)
   obtain ⟨y, hy, hg⟩ := hG n cs' _ h2
   exact ⟨(y, cs'), h1, hy, hg⟩
  obtain ⟨V, hV⟩ : ∃ V : ∀ i, i < len → α × List Value, ∀ i (hi : i < len), W.cells? 0 (a.add (i * Try.prog.cellsOf e)) (Try.prog.cellsOf e) = some (V i hi).2 ∧ kd.K W (V i hi).1 (V i hi).2 ∧ G (V i hi).1 :=
   ⟨fun i hi => Classical.choose (hV0 i hi), fun i hi => Classical.choose_spec (hV0 i hi)⟩
  refine ⟨(List.finRange len).map fun i => (V i.val i.isLt).1, ⟨some a, cap, by simp, by simpa using hl, by simp, by simp only [List.length_map, List.length_finRange]; unfold maxLen at hm; omega, fun _ => ⟨a, rfl, ?_⟩⟩, by simp only [List.length_map, List.length_finRange]; omega, ?_⟩
  ·intro j p hj
   have hj' : j < len := by have := (List.getElem?_eq_some_iff.1 hj).1; simpa using this
   have hp : p = (V j hj').1 := by
    rw [List.getElem?_map, List.getElem?_eq_getElem (by simpa using hj')] at hj
    simp at hj
    exact hj.symm
   obtain ⟨h1, h2, _⟩ := hV j hj'
   obtain ⟨_, hlen, hcell⟩ := World.cells?_some h1
   subst hp
   refine ⟨(V j hj').2, by rw [hlen, hc], h2, fun i u hu => ?_⟩
   have hi : i < Try.prog.cellsOf e := by have := (List.getElem?_eq_some_iff.1 hu).1; omega
   have := hcell i hi
   rw [hu, hc] at this
   rw [← Go.Deep.add_add]
   exact this
  ·intro y hy
   obtain ⟨i, _, rfl⟩ := List.mem_map.1 hy
   exact (hV i.val i.isLt).2.2
def OpensAt {α : Type} (enc : TypeId × Value → H) (W : World) (kd : Kd α) (fs : Array Field) (i off : Nat) (G : α → Prop) : Prop :=
 ∀ cs : List Value, (∀ (j : Nat) (f : Field), fs[j]? = some f → i ≤ j → ∃ fuel x, DataW.trod enc Try.prog W 0 (fun _ => true) true fuel f.type ((cs.drop f.offset).take (Try.prog.cellsOf f.type)) = some x) → cs.length = off + kd.sz → ∃ a, kd.K W a (cs.drop off) ∧ G a
theorem opens_last {α : Type} {kd : Kd α} {fs : Array Field} {i off : Nat} {G : α → Prop} {f : Field} (hf : fs[i]? = some f) (ho : f.offset = off) (hc : Try.prog.cellsOf f.type = kd.sz) (h : Opens enc W kd f.type G) : OpensAt enc W kd fs i off G := by
 intro cs hcs hl
 obtain ⟨fuel, x, hx⟩ := hcs i f hf (Nat.le_refl _)
 rw [ho, hc, List.take_of_length_le (by simp; omega)] at hx
 exact h fuel _ _ hx
theorem opens_pair {α β : Type} {kd : Kd α} {kd2 : Kd β} {fs : Array Field} {i off : Nat} {G : α → Prop} {G2 : β → Prop} {f : Field} (hf : fs[i]? = some f) (ho : f.offset = off) (hc : Try.prog.cellsOf f.type = kd.sz) (h : Opens enc W kd f.type G)
  (h2 : OpensAt enc W kd2 fs (i + 1) (off + kd.sz) G2) : OpensAt enc W (Kd.pair kd kd2) fs i off (fun p => G p.1 ∧ G2 p.2) := by
 intro cs hcs hl
 obtain ⟨fuel, x, hx⟩ := hcs i f hf (Nat.le_refl _)
 rw [ho, hc] at hx
 obtain ⟨a, ha, hg⟩ := h fuel _ _ hx
 have hl' : cs.length = off + kd.sz + kd2.sz := by
  have : (Kd.pair kd kd2).sz = kd.sz + kd2.sz := rfl
  omega
 obtain ⟨b, hb, hg2⟩ := h2 cs (fun j f hf hj => hcs j f hf (by omega)) hl'
 refine ⟨(a, b), ⟨_, _, ?_, ha, hb⟩, hg, hg2⟩
 rw [← List.drop_drop, List.take_append_drop]
theorem opens_struct {α : Type} {kd : Kd α} {t : TypeId} {fs : Array Field} {G : α → Prop} (ht : Try.prog.underlying t = some (.struct fs)) (hc : Try.prog.cellsOf t = kd.sz) (h : OpensAt enc W kd fs 0 0 G) : Opens enc W kd t G := by
 intro fuel cs x hx
 obtain ⟨xs, n, _, _, hlen, hxl, hf⟩ := DataW.trod_struct ht hx
 have := h cs (fun j f hj _ => by
  have hj' : j < xs.length := by have := (Array.getElem?_eq_some_iff.1 hj).1; omega
  exact ⟨n, xs[j], by rw [hf j f hj, List.getElem?_eq_getElem hj']⟩) (by omega)
 simpa using this
theorem opens_iso {α β : Type} {kd : Kd α} {t : TypeId} {G : α → Prop} (g : β → α) (f : α → β) (hgf : ∀ a, g (f a) = a) (h : Opens enc W kd t G) : Opens enc W (Kd.iso kd g) t (fun b => G (g b)) := by
 intro fuel cs x hx
 obtain ⟨a, ha, hg⟩ := h fuel cs x hx
 refine ⟨f a, ?_, ?_⟩
 ·show kd.K W (g (f a)) cs
  rw [hgf]
  exact ha
 ·show G (g (f a))
  rw [hgf]
  exact hg
theorem opens_arg {α : Type} {kd : Kd α} {t e : TypeId} {G : List α → Prop} {v : Value} {d : DataW H} {ps : List MemPlace} (h : Opens enc W (Kd.slice e kd) t G) (hv : ∃ A n c, v = .slice A n c) (hd : DataW.Trod enc Try.prog W 0 (fun _ => true) true t v d ps) :
  ∃ A l c, v = .slice A l.length c ∧ l.length ≤ c ∧ kd.C W A l.length l ∧ G l := by
 obtain ⟨A0, n, c0, rfl⟩ := hv
 obtain ⟨fuel, hx⟩ := hd
 obtain ⟨l, ⟨A, c, hcs, hl, hC⟩, hg⟩ := h fuel _ _ hx
 have : (Value.slice A0 n c0) = .slice A l.length c := by simpa [Value.cells] using hcs
 exact ⟨A, l, c, this, hl, hC, hg⟩
end
end Go.Proofs.YtcdjhdfjkfbgdaaX
namespace Go.Proofs.Ytcdjhdfjkfbgdaa.PD56
open Go.RowKit Go.Proofs.YtcdjhdfjkfbgdaaX Go.Proofs.YtcdjhdfjkfbgdaaW.PrintWords Go.Proofs.YtcdjhdfjkfbgdaaW.PrintLast Go.Proofs.YtcdjhdfjkfbgdaaW.PrintMore
theorem opens_k43 {H : Type} {enc : TypeId × Value → H} {W : World} : Opens enc W k43 43 G43 :=
 opens_iso (fun x : S43 => (x.f0, x.f1, x.f2, x.f3, x.f4)) (fun p => ⟨p.1, p.2.1, p.2.2.1, p.2.2.2.1, p.2.2.2.2⟩) (fun _ => rfl) (opens_struct Try.underlying43 (by kernel_rfl) (opens_pair rfl rfl (by kernel_rfl) (opens_string Try.underlying9) (opens_pair rfl rfl (by kernel_rfl) (opens_int Try.underlying3) (opens_pair rfl rfl (by kernel_rfl) (opens_int Try.underlying2) (opens_pair rfl rfl (by kernel_rfl) (opens_int Try.underlying3) (opens_last rfl rfl (by kernel_rfl) (opens_int Try.underlying3)))))))
theorem opens_k59 {H : Type} {enc : TypeId × Value → H} {W : World} : Opens enc W k59 59 G59 :=
 opens_iso (fun x : S59 => (x.f0, x.f1)) (fun p => ⟨p.1, p.2⟩) (fun _ => rfl) (opens_struct Try.underlying59 (by kernel_rfl) (opens_pair rfl rfl (by kernel_rfl) (opens_bool Try.underlying4) (opens_last rfl rfl (by kernel_rfl) (opens_int Try.underlying3))))
end Go.Proofs.Ytcdjhdfjkfbgdaa.PD56
namespace Go.Proofs.Ytcdjhdfjkfbgdaa.demandSteps
open Go.ChangeShapes Go.WideShapes Go.ChangeAt Go.RowKit
open Go.ChangeMaps (open_string shut_string)
open Go.Proofs.YtcdjhdfjkfbgdaaX Go.Proofs.Ytcdjhdfjkfbgdaa.PD56 Go.Proofs.YtcdjhdfjkfbgdaaW.PrintWords
theorem own : ownKnob Try.prog.godebug = none := by kernel_rfl
theorem laidOut : laidOutB Try.prog = true := by kernel_rfl
set_option maxRecDepth 100000 in
theorem lifted (os : Os) (started : os.Started) (H : Type) (enc : TypeId × Value → H) :
  ReturnsInHanded {} Try.checked os 3 .any (Rows.demandStepsSpec.pre6 enc Try.prog Try.f3 Rows.demandStepsRow.domain false) (Rows.demandStepsSpec.post enc Try.prog Try.f3 false true false false) := by
 refine returnsInHanded_of_change_sized (C := Try.checked) own started (by kernel_rfl) Try.func3
  (ChangeSpec.witness6 (enc := enc) (C := Try.checked) false ⟨#[], #[.slice none 0 0, .slice none 0 0, .int .i64 0, .int .i64 0, .int .i64 0], []⟩ 8 (by kernel_rfl) (by kernel_rfl) (by kernel_rfl) (by kernel_rfl)) ?_
 intro W base args ds gs before hval0 hW hcnd hsz0 _
 have hval : ∀ (j : Nat) t v, Try.f3.params[j]? = some t → args[j]? = some v → Value.okWide Try.prog W .any base t v := hval0
 have hW' := hW
 obtain ⟨p, q, hA0, hV, rfl, hfz, hnd⟩ := hW
 have hA : DataW.TrodAll enc Try.prog W 0 (fun _ => true) true Try.f3.params.toList args.toList ds p := hA0
 rw [Try.params3] at hA hval
 obtain ⟨v0, vs0, d0, ds0, p0, q0, hargs, rfl, rfl, h0, r0⟩ := trodAll_cons hA
 obtain ⟨v1, vs1, d1, ds1, p1, q1, rfl, rfl, rfl, h1, r1⟩ := trodAll_cons r0
 obtain ⟨v2, vs2, d2, ds2, p2, q2, rfl, rfl, rfl, h2, r2⟩ := trodAll_cons r1
 obtain ⟨v3, vs3, d3, ds3, p3, q3, rfl, rfl, rfl, h3, r3⟩ := trodAll_cons r2
 obtain ⟨v4, vs4, d4, ds4, p4, q4, rfl, rfl, rfl, h4, r4⟩ := trodAll_cons r3
 obtain ⟨rfl, rfl, rfl⟩ := trodAll_nil r4
 obtain rfl : args = #[v0, v1, v2, v3, v4] := by cases args; simp_all
 obtain ⟨rfl, rfl⟩ := trodVars_none hV
 obtain ⟨a0, len0, cap0, rfl⟩ := okWide_slice Try.underlying22 (hval 0 22 v0 rfl rfl)
 have k0 := h0
 have lt0 : ∀ x ∈ p0, x.block < W.heap.size := by obtain ⟨m, hm⟩ := k0; exact DataW.trod_lt m _ _ _ hm
 obtain ⟨A0, l0, c0, e0, hc0, hC0, hG0⟩ := opens_arg (kd := k43) (G := fun l => l.length ≤ maxLen ∧ ∀ y, y ∈ l → G43 y) (opens_slice Try.underlying22 (by kernel_rfl) opens_k43) ⟨_, _, _, rfl⟩ h0
 cases e0
 obtain ⟨a1, len1, cap1, rfl⟩ := okWide_slice Try.underlying23 (hval 1 23 v1 rfl rfl)
 have k1 := h1
 have lt1 : ∀ x ∈ p1, x.block < W.heap.size := by obtain ⟨m, hm⟩ := k1; exact DataW.trod_lt m _ _ _ hm
 obtain ⟨A1, l1, c1, e1, hc1, hC1, hG1⟩ := opens_arg (kd := k59) (G := fun l => l.length ≤ maxLen ∧ ∀ y, y ∈ l → G59 y) (opens_slice Try.underlying23 (by kernel_rfl) opens_k59) ⟨_, _, _, rfl⟩ h1
 cases e1
 obtain ⟨a2, rfl, rfl, rfl, w2⟩ := open_int Try.underlying2 (hval 2 2 v2 rfl rfl) h2
 obtain ⟨a3, rfl, rfl, rfl, w3⟩ := open_int Try.underlying2 (hval 3 2 v3 rfl rfl) h3
 obtain ⟨a4, rfl, rfl, rfl, w4⟩ := open_int Try.underlying3 (hval 4 3 v4 rfl rfl) h4
 obtain ⟨k, hk⟩ := pureLaw l0 l1 a2 a3 a4 hG0 hG1 w2 w3 w4
 clear hA0 hval0 hsz0
 refine (PD56.plenumlaw56_DemandSteps.calls k _ _ l0 _ _ l1 a2 a3 a4 true W hC0 hc0 hC1 hc1 hk).mono fun e W' ⟨he, bel⟩ => ?_
 subst he
 exact ⟨_, rfl, _, _, _, [], _, [], hW', trodAll_mk1 (shut_bool Try.underlying4 _), (trodAll_cons_mk (Below.trod laidOut (by kernel_rfl) (of_decide_eq_true (by kernel_rfl)) k0 bel lt0) (trodAll_cons_mk (Below.trod laidOut (by kernel_rfl) (of_decide_eq_true (by kernel_rfl)) k1 bel lt1) (trodAll_cons_mk (shut_int Try.underlying2 w2) (trodAll_cons_mk (shut_int Try.underlying2 w3) (trodAll_cons_mk (shut_int Try.underlying3 w4) trodAll_mk0))))), rfl, bel.frame _, fun h => by cases h⟩
theorem over : Rows.demandStepsRow.holds Try.pinned (OpenSpec.ofChange Rows.demandStepsSpec) :=
 OpenClaim.holds_of_wide 3 Try.f3 rfl rfl rfl rfl rfl rfl rfl ⟨rfl, rfl, rfl, rfl, rfl⟩ rfl rfl rfl rfl rfl (by kernel_rfl) Try.func3 (by kernel_rfl)
  (of_decide_eq_true (by kernel_rfl)) (by unfold Func.isWrapper; first | (rw [if_pos (by decide +kernel)]; kernel_rfl) | (rw [if_neg (by decide +kernel)]; exact ⟨rfl, rfl⟩))
  (fun os started H enc _ => lifted os started H enc)
theorem proved : Rows.DemandStepsSaid := over
end Go.Proofs.Ytcdjhdfjkfbgdaa.demandSteps
namespace Go.Proofs.Ytcdjhdfjkfbgdaa
theorem demandSteps_holds : Rows.DemandStepsSaid := demandSteps.proved
end Go.Proofs.Ytcdjhdfjkfbgdaa
